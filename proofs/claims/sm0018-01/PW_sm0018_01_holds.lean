import PyProof.Rows.All
import Wide.All
import OpenK.AllK
import Wide.FinOn
import PySem.Challenge.RW_sm0018_01
set_option Elab.async false
set_option maxRecDepth 100000
set_option maxHeartbeats 8000000
set_option linter.unusedVariables false
set_option linter.unusedSimpArgs false

namespace Mine
open PySem PySem.SeqAt

/-! A small machine of its own for the part of Python that the law uses: each construct is a function from
the frame's names and the objects to a value and the objects. It is written with bare recursors, for the
kernel's sake. -/

/-- numbers of objects and of names: roads down a tree -/
inductive Pn where
  | e
  | o (p : Pn)
  | i (p : Pn)

inductive V where
  | none
  | bool (b : Bool)
  | int (i : Int)
  | ref (n : Pn)
  | ctup (l : List Int)
  | sym (k : Nat)

inductive TrV where
  | nil
  | node (v : Option V) (l r : TrV)

inductive O where
  | list (vs : List V)
  | arr (n : Nat) (d : V) (t : TrV)
  | tup (vs : List V)
  | dict (es : List (Int × V))
  | inst (c : Nat) (d : Pn)
  | ns (k : Nat) (fs : TrV)
  | range (a b c : Int)
  | pre (vs : List V)

inductive TrO where
  | nil
  | node (v : Option O) (l r : TrO)

noncomputable section
def Pn.succ (p : Pn) : Pn := @Pn.rec (fun _ => Pn) (.o .e) (fun p _ => .i p) (fun _ s => .o s) p

def TrV.top (t : TrV) : Option V := @TrV.rec (fun _ => Option V) Option.none (fun v _ _ _ _ => v) t
def TrV.lt (t : TrV) : TrV := @TrV.rec (fun _ => TrV) .nil (fun _ l _ _ _ => l) t
def TrV.rt (t : TrV) : TrV := @TrV.rec (fun _ => TrV) .nil (fun _ _ r _ _ => r) t
def TrV.get (t : TrV) (p : Pn) : Option V := @Pn.rec (fun _ => TrV → Option V) TrV.top (fun _ g t => g t.lt) (fun _ g t => g t.rt) p t
def TrV.set (t : TrV) (p : Pn) (x : V) : TrV := @Pn.rec (fun _ => TrV → TrV) (fun t => .node (some x) t.lt t.rt) (fun _ g t => .node t.top (g t.lt) t.rt) (fun _ g t => .node t.top t.lt (g t.rt)) p t
def TrO.top (t : TrO) : Option O := @TrO.rec (fun _ => Option O) Option.none (fun v _ _ _ _ => v) t
def TrO.lt (t : TrO) : TrO := @TrO.rec (fun _ => TrO) .nil (fun _ l _ _ _ => l) t
def TrO.rt (t : TrO) : TrO := @TrO.rec (fun _ => TrO) .nil (fun _ _ r _ _ => r) t
def TrO.get (t : TrO) (p : Pn) : Option O := @Pn.rec (fun _ => TrO → Option O) TrO.top (fun _ g t => g t.lt) (fun _ g t => g t.rt) p t
def TrO.set (t : TrO) (p : Pn) (x : O) : TrO := @Pn.rec (fun _ => TrO → TrO) (fun t => .node (some x) t.lt t.rt) (fun _ g t => .node t.top (g t.lt) t.rt) (fun _ g t => .node t.top t.lt (g t.rt)) p t

structure Hp where
  next : Pn
  tr : TrO

def Hp.get (H : Hp) (n : Pn) : Option O := H.tr.get n
def Hp.set (H : Hp) (n : Pn) (o : O) : Hp := ⟨H.next, H.tr.set n o⟩

def forceN {α : Type} (n : Nat) (k : Nat → α) : α := @Nat.rec (fun _ => α) (k 0) (fun m _ => k (Nat.succ m)) n
theorem forceN_eq {α : Type} (n : Nat) (k : Nat → α) : forceN n k = k n := by cases n <;> rfl
def forceI {α : Type} (i : Int) (k : Int → α) : α := @Int.rec (fun _ => α) (fun n => forceN n fun m => k (.ofNat m)) (fun n => forceN n fun m => k (.negSucc m)) i
theorem forceI_eq {α : Type} (i : Int) (k : Int → α) : forceI i k = k i := by
  cases i with
  | ofNat n => exact forceN_eq n fun m => k (.ofNat m)
  | negSucc n => exact forceN_eq n fun m => k (.negSucc m)

abbrev Lo := TrV
inductive Fl where
  | next
  | cont
  | ret (v : V)
inductive R (α : Type) where
  | bad
  | ok (a : α) (H : Hp)
inductive RS where
  | bad
  | ok (f : Fl) (lo : Lo) (H : Hp)

section
variable {α β : Type}
def R.bind (x : R α) (k : α → Hp → R β) : R β := @R.rec α (fun _ => R β) .bad k x
def R.bindS (x : R α) (k : α → Hp → RS) : RS := @R.rec α (fun _ => RS) .bad k x
def RS.bindS (x : RS) (k : Fl → Lo → Hp → RS) : RS := @RS.rec (fun _ => RS) .bad k x
def RS.bindR (x : RS) (k : Fl → Lo → Hp → R β) : R β := @RS.rec (fun _ => R β) .bad k x
def opt (x : Option α) (k : α → R β) : R β := @Option.rec α (fun _ => R β) .bad k x
def optS (x : Option α) (k : α → RS) : RS := @Option.rec α (fun _ => RS) .bad k x
def opt1 (x : Option α) (k : α → Option β) : Option β := @Option.rec α (fun _ => Option β) Option.none k x
def grd (b : Bool) (x : R β) : R β := @Bool.rec (fun _ => R β) .bad x b
def grdO (b : Bool) (x : Option β) : Option β := @Bool.rec (fun _ => Option β) Option.none x b
def bif_ (b : Bool) (x y : α) : α := @Bool.rec (fun _ => α) y x b

theorem bind_ok {x : R α} {k : α → Hp → R β} {b : β} {H' : Hp} (h : x.bind k = .ok b H') : ∃ a H, x = .ok a H ∧ k a H = .ok b H' := by
  cases x with
  | bad => cases h
  | ok a H => exact ⟨a, H, rfl, h⟩
theorem bindS_ok {x : R α} {k : α → Hp → RS} {f : Fl} {lo : Lo} {H' : Hp} (h : x.bindS k = .ok f lo H') : ∃ a H, x = .ok a H ∧ k a H = .ok f lo H' := by
  cases x with
  | bad => cases h
  | ok a H => exact ⟨a, H, rfl, h⟩
theorem rbindS_ok {x : RS} {k : Fl → Lo → Hp → RS} {f : Fl} {lo : Lo} {H' : Hp} (h : x.bindS k = .ok f lo H') : ∃ g l H, x = .ok g l H ∧ k g l H = .ok f lo H' := by
  cases x with
  | bad => cases h
  | ok g l H => exact ⟨g, l, H, rfl, h⟩
theorem rbindR_ok {x : RS} {k : Fl → Lo → Hp → R β} {b : β} {H' : Hp} (h : x.bindR k = .ok b H') : ∃ g l H, x = .ok g l H ∧ k g l H = .ok b H' := by
  cases x with
  | bad => cases h
  | ok g l H => exact ⟨g, l, H, rfl, h⟩
theorem opt_ok {x : Option α} {k : α → R β} {b : β} {H' : Hp} (h : opt x k = .ok b H') : ∃ a, x = some a ∧ k a = .ok b H' := by
  cases x with
  | none => cases h
  | some a => exact ⟨a, rfl, h⟩
theorem optS_ok {x : Option α} {k : α → RS} {f : Fl} {lo : Lo} {H' : Hp} (h : optS x k = .ok f lo H') : ∃ a, x = some a ∧ k a = .ok f lo H' := by
  cases x with
  | none => cases h
  | some a => exact ⟨a, rfl, h⟩
theorem opt1_ok {x : Option α} {k : α → Option β} {b : β} (h : opt1 x k = some b) : ∃ a, x = some a ∧ k a = some b := by
  cases x with
  | none => cases h
  | some a => exact ⟨a, rfl, h⟩
theorem grd_ok {b : Bool} {x : R β} {v : β} {H : Hp} (h : grd b x = .ok v H) : b = true ∧ x = .ok v H := by
  cases b with
  | true => exact ⟨rfl, h⟩
  | false => cases h
theorem grdO_ok {b : Bool} {x : Option β} {v : β} (h : grdO b x = some v) : b = true ∧ x = some v := by
  cases b with
  | true => exact ⟨rfl, h⟩
  | false => cases h
end

section
variable {α : Type}
def V.asInt (v : V) (k : Int → Option α) : Option α := @V.rec (fun _ => Option α) Option.none (fun _ => Option.none) k (fun _ => Option.none) (fun _ => Option.none) (fun _ => Option.none) v
def V.asRef (v : V) (k : Pn → Option α) : Option α := @V.rec (fun _ => Option α) Option.none (fun _ => Option.none) (fun _ => Option.none) k (fun _ => Option.none) (fun _ => Option.none) v
def V.asCtup (v : V) (k : List Int → Option α) : Option α := @V.rec (fun _ => Option α) Option.none (fun _ => Option.none) (fun _ => Option.none) (fun _ => Option.none) k (fun _ => Option.none) v
def V.intR (v : V) (k : Int → R α) : R α := @V.rec (fun _ => R α) .bad (fun _ => .bad) k (fun _ => .bad) (fun _ => .bad) (fun _ => .bad) v
def V.refR (v : V) (k : Pn → R α) : R α := @V.rec (fun _ => R α) .bad (fun _ => .bad) (fun _ => .bad) k (fun _ => .bad) (fun _ => .bad) v
def V.symR (v : V) (k : Nat → R α) : R α := @V.rec (fun _ => R α) .bad (fun _ => .bad) (fun _ => .bad) (fun _ => .bad) (fun _ => .bad) k v
def O.listR (o : O) (k : List V → R α) : R α := @O.rec (fun _ => R α) k (fun _ _ _ => .bad) (fun _ => .bad) (fun _ => .bad) (fun _ _ => .bad) (fun _ _ => .bad) (fun _ _ _ => .bad) (fun _ => .bad) o
def O.asList (o : O) (k : List V → Option α) : Option α := @O.rec (fun _ => Option α) k (fun _ _ _ => Option.none) (fun _ => Option.none) (fun _ => Option.none) (fun _ _ => Option.none) (fun _ _ => Option.none) (fun _ _ _ => Option.none) (fun _ => Option.none) o
def O.asArr (o : O) (k : Nat → V → TrV → Option α) : Option α := @O.rec (fun _ => Option α) (fun _ => Option.none) k (fun _ => Option.none) (fun _ => Option.none) (fun _ _ => Option.none) (fun _ _ => Option.none) (fun _ _ _ => Option.none) (fun _ => Option.none) o
def O.asTup (o : O) (k : List V → Option α) : Option α := @O.rec (fun _ => Option α) (fun _ => Option.none) (fun _ _ _ => Option.none) k (fun _ => Option.none) (fun _ _ => Option.none) (fun _ _ => Option.none) (fun _ _ _ => Option.none) (fun _ => Option.none) o
def O.asDict (o : O) (k : List (Int × V) → Option α) : Option α := @O.rec (fun _ => Option α) (fun _ => Option.none) (fun _ _ _ => Option.none) (fun _ => Option.none) k (fun _ _ => Option.none) (fun _ _ => Option.none) (fun _ _ _ => Option.none) (fun _ => Option.none) o
def O.asInst (o : O) (k : Nat → Pn → Option α) : Option α := @O.rec (fun _ => Option α) (fun _ => Option.none) (fun _ _ _ => Option.none) (fun _ => Option.none) (fun _ => Option.none) k (fun _ _ => Option.none) (fun _ _ _ => Option.none) (fun _ => Option.none) o
def O.asNs (o : O) (k : Nat → TrV → Option α) : Option α := @O.rec (fun _ => Option α) (fun _ => Option.none) (fun _ _ _ => Option.none) (fun _ => Option.none) (fun _ => Option.none) (fun _ _ => Option.none) k (fun _ _ _ => Option.none) (fun _ => Option.none) o
def O.asPre (o : O) (k : List V → Option α) : Option α := @O.rec (fun _ => Option α) (fun _ => Option.none) (fun _ _ _ => Option.none) (fun _ => Option.none) (fun _ => Option.none) (fun _ _ => Option.none) (fun _ _ => Option.none) (fun _ _ _ => Option.none) k o
def nat1 (i : Int) (k : Nat → Option α) : Option α := @Int.rec (fun _ => Option α) k (fun _ => Option.none) i
theorem asInt_ok {v : V} {k : Int → Option α} {b : α} (h : v.asInt k = some b) : ∃ i, v = .int i ∧ k i = some b := by
  cases v <;> first | (exact ⟨_, rfl, h⟩) | cases h
theorem asRef_ok {v : V} {k : Pn → Option α} {b : α} (h : v.asRef k = some b) : ∃ i, v = .ref i ∧ k i = some b := by
  cases v <;> first | (exact ⟨_, rfl, h⟩) | cases h
theorem asCtup_ok {v : V} {k : List Int → Option α} {b : α} (h : v.asCtup k = some b) : ∃ i, v = .ctup i ∧ k i = some b := by
  cases v <;> first | (exact ⟨_, rfl, h⟩) | cases h
theorem intR_ok {v : V} {k : Int → R α} {b : α} {H : Hp} (h : v.intR k = .ok b H) : ∃ i, v = .int i ∧ k i = .ok b H := by
  cases v <;> first | (exact ⟨_, rfl, h⟩) | cases h
theorem refR_ok {v : V} {k : Pn → R α} {b : α} {H : Hp} (h : v.refR k = .ok b H) : ∃ i, v = .ref i ∧ k i = .ok b H := by
  cases v <;> first | (exact ⟨_, rfl, h⟩) | cases h
theorem symR_ok {v : V} {k : Nat → R α} {b : α} {H : Hp} (h : v.symR k = .ok b H) : ∃ i, v = .sym i ∧ k i = .ok b H := by
  cases v <;> first | (exact ⟨_, rfl, h⟩) | cases h
theorem listR_ok {v : O} {k : List V → R α} {b : α} {H : Hp} (h : v.listR k = .ok b H) : ∃ i, v = .list i ∧ k i = .ok b H := by
  cases v <;> first | (exact ⟨_, rfl, h⟩) | cases h
theorem asList_ok {v : O} {k : List V → Option α} {b : α} (h : v.asList k = some b) : ∃ i, v = .list i ∧ k i = some b := by
  cases v <;> first | (exact ⟨_, rfl, h⟩) | cases h
theorem asArr_ok {v : O} {k : Nat → V → TrV → Option α} {b : α} (h : v.asArr k = some b) : ∃ n d t, v = .arr n d t ∧ k n d t = some b := by
  cases v <;> first | (exact ⟨_, _, _, rfl, h⟩) | cases h
theorem asTup_ok {v : O} {k : List V → Option α} {b : α} (h : v.asTup k = some b) : ∃ i, v = .tup i ∧ k i = some b := by
  cases v <;> first | (exact ⟨_, rfl, h⟩) | cases h
theorem asDict_ok {v : O} {k : List (Int × V) → Option α} {b : α} (h : v.asDict k = some b) : ∃ i, v = .dict i ∧ k i = some b := by
  cases v <;> first | (exact ⟨_, rfl, h⟩) | cases h
theorem asInst_ok {v : O} {k : Nat → Pn → Option α} {b : α} (h : v.asInst k = some b) : ∃ c d, v = .inst c d ∧ k c d = some b := by
  cases v <;> first | (exact ⟨_, _, rfl, h⟩) | cases h
theorem asNs_ok {v : O} {k : Nat → TrV → Option α} {b : α} (h : v.asNs k = some b) : ∃ i j, v = .ns i j ∧ k i j = some b := by
  cases v <;> first | (exact ⟨_, _, rfl, h⟩) | cases h
theorem asPre_ok {v : O} {k : List V → Option α} {b : α} (h : v.asPre k = some b) : ∃ i, v = .pre i ∧ k i = some b := by
  cases v <;> first | (exact ⟨_, rfl, h⟩) | cases h
theorem nat1_ok {i : Int} {k : Nat → Option α} {b : α} (h : nat1 i k = some b) : ∃ n, i = .ofNat n ∧ k n = some b := by
  cases i <;> first | (exact ⟨_, rfl, h⟩) | cases h
end

def line : Nat := 100000
def Hp.alloc (H : Hp) (o : O) : R V := .ok (.ref H.next) ⟨H.next.succ, H.tr.set H.next o⟩

def ieq (a b : Int) : Bool := @Int.rec (fun _ => Bool) (fun m => @Int.rec (fun _ => Bool) (fun n => Nat.beq m n) (fun _ => false) b) (fun m => @Int.rec (fun _ => Bool) (fun _ => false) (fun n => Nat.beq m n) b) a
theorem ieq_eqB (a b : Int) : ieq a b = W.Z.eqB a b := by cases a <;> cases b <;> rfl
theorem ieq_iff (a b : Int) : ieq a b = true ↔ a = b := by rw [ieq_eqB]; exact W.Z.eqB_iff a b
def iget (es : List (Int × V)) (i : Int) : Option V := @List.rec (Int × V) (fun _ => Option V) Option.none (fun p _ g => bif_ (ieq p.1 i) (some p.2) g) es
def iput (es : List (Int × V)) (i : Int) (v : V) : List (Int × V) := @List.rec (Int × V) (fun _ => List (Int × V)) [(i, v)] (fun p r g => bif_ (ieq p.1 i) ((i, v) :: r) (p :: g)) es

def nth {α : Type} (vs : List α) : Nat → Option α := @List.rec α (fun _ => Nat → Option α) (fun _ => Option.none) (fun v _ g n => @Nat.rec (fun _ => Option α) (some v) (fun m _ => g m) n) vs
def lset (vs : List V) (x : V) : Nat → Option (List V) :=
  @List.rec V (fun _ => Nat → Option (List V)) (fun _ => Option.none) (fun v r g n => @Nat.rec (fun _ => Option (List V)) (some (x :: r)) (fun m _ => opt1 (g m) fun q => some (v :: q)) n) vs
def llen {α : Type} (vs : List α) : Nat := @List.rec α (fun _ => Nat) 0 (fun _ _ n => Nat.succ n) vs
def lapp (vs ws : List V) : List V := @List.rec V (fun _ => List V) ws (fun v _ g => v :: g) vs

/-- the arrays' trees are gone down by the index' bits -/
def aget (n : Nat) : Nat → TrV → Option V := @Nat.rec (fun _ => Nat → TrV → Option V) (fun _ t => t.top) (fun _ g i t => g (Nat.div i 2) (@Bool.rec (fun _ => TrV) t.rt t.lt (Nat.beq (Nat.mod i 2) 0))) n
def aset (x : V) (n : Nat) : Nat → TrV → TrV := @Nat.rec (fun _ => Nat → TrV → TrV) (fun _ t => .node (some x) t.lt t.rt)
  (fun _ g i t => @Bool.rec (fun _ => TrV) (.node t.top t.lt (g (Nat.div i 2) t.rt)) (.node t.top (g (Nat.div i 2) t.lt) t.rt) (Nat.beq (Nat.mod i 2) 0)) n
def agetD (d : V) (t : TrV) (i : Nat) : V := @Option.rec V (fun _ => V) d (fun v => v) (aget 11 i t)

/-! the operations -/

def small (a : Int) : Bool := Nat.blt a.natAbs 1000000000
def sm2 (a b : Int) : Bool := bif_ (small a) (small b) false
def iAdd (a b : Int) : Option Int := some (Int.add a b)
def iSub (a b : Int) : Option Int := some (Int.sub a b)
def iMul (a b : Int) : Option Int := grdO (sm2 a b) (some (Int.mul a b))
def iDiv (a b : Int) : Option Int := grdO (small b) (grdO (!(ieq b 0)) (some (Int.fdiv a b)))
def iMod (a b : Int) : Option Int := grdO (!(ieq b 0)) (some (Int.fmod a b))
def nn (a b : Int) (f : Nat → Nat → Nat) (g : Int → Int → Int) : Int := @Int.rec (fun _ => Int) (fun m => @Int.rec (fun _ => Int) (fun n => .ofNat (f m n)) (fun n => g a b) b) (fun m => g a b) a
def iAnd (a b : Int) : Option Int := some (nn a b Nat.land Builtin.bitAnd)
def iOr (a b : Int) : Option Int := some (nn a b Nat.lor Builtin.bitOr)
def iXor (a b : Int) : Option Int := some (Builtin.bitXor a b)
def iShl (a b : Int) : Option Int := grdO (small a) (nat1 b fun n => grdO (Nat.blt n 1000) (some (Int.mul a (.ofNat (Nat.pow 2 n)))))
def iShr (a b : Int) : Option Int := nat1 b fun n => some (Int.fdiv a (.ofNat (Nat.pow 2 n)))

def repl (vs : List V) (n : Nat) : List V := @Nat.rec (fun _ => List V) [] (fun _ g => lapp vs g) n

def mulL (a b : V) (H : Hp) : R V := a.refR fun n => b.intR fun k => opt (H.get n) fun o => o.listR fun vs => opt (nat1 k some) fun m =>
  grd (Nat.ble (Nat.mul (llen vs) m) line) (grd (Nat.ble m line) (H.alloc (.list (repl vs m))))
/-- a list of one, many times: kept as a tree -/
def mulA (a b : V) (H : Hp) : R V := a.refR fun n => b.intR fun k => opt (H.get n) fun o => o.listR fun vs => opt (nat1 k some) fun m =>
  grd (Nat.ble (Nat.mul (llen vs) m) 2048) (grd (Nat.ble m 2048) (@List.rec V (fun _ => R V) .bad (fun v r _ => @List.rec V (fun _ => R V) (H.alloc (.arr m v .nil)) (fun _ _ _ => .bad) r) vs))
def addL (a b : V) (H : Hp) : R V := a.refR fun n => b.refR fun m => opt (H.get n) fun o => o.listR fun vs => opt (H.get m) fun p => p.listR fun ws =>
  grd (Nat.ble (Nat.add (llen vs) (llen ws)) line) (H.alloc (.list (lapp vs ws)))
/-- sm k m: what the k-th unknown int leaves by m, where it is known -/
def modS (sm : Nat → Int → Option Int) (a b : V) (H : Hp) : R V := a.symR fun k => b.intR fun m => opt (sm k m) fun r => .ok (.int r) H

abbrev SubF := V → V → Hp → Option V
def at_ {α : Type} (vs : List α) (k : Int) : Option α := nat1 k fun j => grdO (Nat.blt j line) (nth vs j)
def subL : SubF := fun a i H => a.asRef fun n => i.asInt fun k => opt1 (H.get n) fun o => o.asList fun vs => at_ vs k
def subA : SubF := fun a i H => a.asRef fun n => i.asInt fun k => opt1 (H.get n) fun o => o.asArr fun n d t => nat1 k fun j => grdO (Nat.blt j n) (some (agetD d t j))
def subT : SubF := fun a i H => a.asRef fun n => i.asInt fun k => opt1 (H.get n) fun o => o.asTup fun vs => at_ vs k
def subP : SubF := fun a i H => a.asRef fun n => i.asInt fun k => opt1 (H.get n) fun o => o.asPre fun vs => at_ vs k
def subD : SubF := fun a i H => a.asRef fun n => i.asInt fun k => opt1 (H.get n) fun o => o.asDict fun es => iget es k
def subC : SubF := fun a i H => a.asCtup fun l => i.asInt fun k => opt1 (at_ l k) fun z => some (.int z)

abbrev SetF := V → V → V → Hp → Option Hp
def setL : SetF := fun a i x H => a.asRef fun n => i.asInt fun k => opt1 (H.get n) fun o => o.asList fun vs => nat1 k fun j => grdO (Nat.blt j line) (opt1 (lset vs x j) fun ws => some (H.set n (.list ws)))
def setR : SetF := fun a i x H => a.asRef fun n => i.asInt fun k => opt1 (H.get n) fun o => o.asArr fun m d t => nat1 k fun j => grdO (Nat.blt j m) (some (H.set n (.arr m d (aset x 11 j t))))
def setD : SetF := fun a i x H => a.asRef fun n => i.asInt fun k => opt1 (H.get n) fun o => o.asDict fun es => grdO (Nat.blt (llen es) line) (@Option.rec V (fun _ => Option Hp) (some (H.set n (.dict (iput es k x)))) (fun _ => Option.none) (iget es k))

def slcN (x : Option V) : Option (Option Nat) := match x with
  | Option.none => some Option.none
  | some v => v.asInt fun i => nat1 i fun n => grdO (Nat.blt n line) (some (some n))
def ldrop (vs : List V) : Nat → List V := @List.rec V (fun _ => Nat → List V) (fun _ => []) (fun v r g n => @Nat.rec (fun _ => List V) (v :: r) (fun m _ => g m) n) vs
def ltake (vs : List V) : Nat → List V := @List.rec V (fun _ => Nat → List V) (fun _ => []) (fun v _ g n => @Nat.rec (fun _ => List V) [] (fun m _ => v :: g m) n) vs
def aslc (d : V) (t : TrV) (c : Nat) : Nat → List V := @Nat.rec (fun _ => Nat → List V) (fun _ => []) (fun _ g i => forceN i fun i => agetD d t i :: g (Nat.succ i)) c
def slcV (a : V) (lo hi : Option V) (H : Hp) : R V := a.refR fun n => opt (H.get n) fun o => opt (slcN lo) fun l => opt (slcN hi) fun h => match o with
  | .list vs => grd (Nat.ble (llen vs) line) (grd (Nat.ble (h.getD (llen vs)) (llen vs)) (grd (Nat.ble (l.getD 0) (h.getD (llen vs))) (H.alloc (.list (ldrop (ltake vs (h.getD (llen vs))) (l.getD 0))))))
  | .arr n d t => grd (Nat.ble (h.getD n) n) (grd (Nat.ble (l.getD 0) (h.getD n)) (H.alloc (.list (aslc d t (Nat.sub (h.getD n) (l.getD 0)) (l.getD 0)))))
  | _ => .bad

def attrV (a : V) (f : Pn) (H : Hp) : Option V := a.asRef fun n => opt1 (H.get n) fun o => o.asInst fun _ d => opt1 (H.get d) fun p => p.asNs fun _ fs => fs.get f
def setA (ok : Nat → Pn → Bool) (a : V) (f : Pn) (x : V) (H : Hp) : Option Hp := a.asRef fun n => opt1 (H.get n) fun o => o.asInst fun c d => grdO (ok c f) (opt1 (H.get d) fun p => p.asNs fun m fs => grdO (Nat.blt m 900) (some (H.set d (.ns (Nat.succ m) (fs.set f x)))))

def flat (v : V) : Option PyData := match v with
  | .none => some .none
  | .bool b => some (.bool b)
  | .int i => some (.int i)
  | _ => Option.none
def flats (vs : List V) : Option (List PyData) := @List.rec V (fun _ => Option (List PyData)) (some []) (fun v _ g => opt1 (flat v) fun d => opt1 g fun ds => some (d :: ds)) vs
def dataV (v : V) (H : Hp) : Option PyData := match v with
  | .ref n => opt1 (H.get n) fun o => o.asList fun vs => opt1 (flats vs) fun ds => some (.list ds)
  | v => flat v
def sameD (a b : V) (H : Hp) : Option Bool := opt1 (dataV a H) fun x => opt1 (dataV b H) fun y => grdO (shaped x) (grdO (shaped y) (grdO (noMix x y) (some (Spec.same x y))))

def intsV (vs : List V) : Option (List Int) := @List.rec V (fun _ => Option (List Int)) (some []) (fun v _ g => v.asInt fun i => opt1 g fun l => some (i :: l)) vs
def anyI (x : Int) (l : List Int) : Bool := @List.rec Int (fun _ => Bool) false (fun y _ g => bif_ (ieq y x) true g) l

abbrev CmpF := V → V → Hp → Option Bool
def cmpII (f : Int → Int → Bool) : CmpF := fun a b _ => a.asInt fun x => b.asInt fun y => some (f x y)
def qEq (x y : Int) : Bool := ieq x y
def qNe (x y : Int) : Bool := !(ieq x y)
def qLt (x y : Int) : Bool := W.Z.ltB x y
def qLe (x y : Int) : Bool := W.Z.leB x y
def qGt (x y : Int) : Bool := W.Z.ltB y x
def qGe (x y : Int) : Bool := W.Z.leB y x
def cEq : CmpF := cmpII qEq
def cNe : CmpF := cmpII qNe
def cLt : CmpF := cmpII qLt
def cLe : CmpF := cmpII qLe
def cGt : CmpF := cmpII qGt
def cGe : CmpF := cmpII qGe
def dEq : CmpF := sameD
def dNe : CmpF := fun a b H => opt1 (sameD a b H) fun r => some (!r)
def cIn : CmpF := fun a b H => a.asInt fun x => b.asRef fun n => opt1 (H.get n) fun o => o.asList fun vs => opt1 (intsV vs) fun l => some (anyI x l)

def truthV (a : V) : Option Bool := match a with
  | .bool b => some b
  | .int i => some (!(ieq i 0))
  | _ => Option.none

def rangeV (l : List V) : Option O := match l with
  | [] => Option.none
  | x :: r => x.asInt fun a => match r with
    | [] => grdO (small a) (some (.range 0 a 1))
    | y :: q => y.asInt fun b => match q with
      | [] => grdO (sm2 a b) (some (.range a b 1))
      | z :: p => z.asInt fun c => match p with
        | [] => grdO (sm2 a b) (grdO (small c) (grdO (!(ieq c 0)) (some (.range a b c))))
        | _ => Option.none

/-! the loops -/

def asgN (xs : List Pn) : List V → Lo → Option Lo :=
  @List.rec Pn (fun _ => List V → Lo → Option Lo) (fun vs lo => @List.rec V (fun _ => Option Lo) (some lo) (fun _ _ _ => Option.none) vs)
    (fun x _ g vs lo => @List.rec V (fun _ => Option Lo) Option.none (fun v r _ => g r (lo.set x v)) vs) xs

/-- how a loop's item is bound: to one name, or to several -/
inductive Tg where
  | one (x : Pn)
  | many (xs : List Pn)
def bindT (tg : Tg) (v : V) (lo : Lo) (H : Hp) : Option Lo := match tg with
  | .one x => some (lo.set x v)
  | .many xs => v.asRef fun n => opt1 (H.get n) fun o => o.asTup fun vs => asgN xs vs lo

abbrev Ex := Lo → Hp → R V
abbrev Lx := Lo → Hp → R (List V)
abbrev Tx := Lo → Hp → R Bool
abbrev Sx := Lo → Hp → RS

/-- what follows a turn: on, or out with the value -/
def onward (x : RS) (k : Lo → Hp → RS) : RS := x.bindS fun f lo H => @Fl.rec (fun _ => RS) (k lo H) (k lo H) (fun v => .ok (.ret v) lo H) f
theorem onward_ok {x : RS} {k : Lo → Hp → RS} {f : Fl} {lo : Lo} {H : Hp} (h : onward x k = .ok f lo H) :
    ∃ g l H1, x = .ok g l H1 ∧ ((∃ v, g = .ret v ∧ f = .ret v ∧ lo = l ∧ H = H1) ∨ ((g = .next ∨ g = .cont) ∧ k l H1 = .ok f lo H)) := by
  obtain ⟨g, l, H1, e, h⟩ := rbindS_ok h
  refine ⟨g, l, H1, e, ?_⟩
  cases g with
  | next => exact .inr ⟨.inl rfl, h⟩
  | cont => exact .inr ⟨.inr rfl, h⟩
  | ret v => cases h; exact .inl ⟨v, rfl, rfl, rfl, rfl⟩

def forR (tg : Tg) (ss : Sx) (c : Int) (n : Nat) : Int → Sx :=
  @Nat.rec (fun _ => Int → Sx) (fun _ lo H => .ok .next lo H)
    (fun _ g i lo H => optS (bindT tg (.int i) lo H) fun lo => onward (ss lo H) fun lo H => forceI (Int.add i c) fun j => g j lo H) n

def seqAt (isT : Bool) (n : Pn) (H : Hp) : Option (List V) := opt1 (H.get n) fun o => bif_ isT (o.asTup some) (o.asList some)
def forL (tg : Tg) (ss : Sx) (isT : Bool) (r : Pn) (n : Nat) : Nat → Sx :=
  @Nat.rec (fun _ => Nat → Sx) (fun _ _ _ => .bad)
    (fun _ g i lo H => optS (seqAt isT r H) fun vs => @Option.rec V (fun _ => RS) (.ok .next lo H)
      (fun v => optS (bindT tg v lo H) fun lo => onward (ss lo H) fun lo H => forceN (Nat.succ i) fun j => g j lo H) (nth vs i)) n

def whlL (t : Tx) (ss : Sx) (n : Nat) : Sx :=
  @Nat.rec (fun _ => Sx) (fun _ _ => .bad)
    (fun _ g lo H => (t lo H).bindS fun b H1 => @Bool.rec (fun _ => RS) (.ok .next lo H1) (onward (ss lo H1) g) b) n

def rsz (a b c : Int) : Nat := (Builtin.Range.rangeSize a b c).toNat
def forV (tg : Tg) (ss : Sx) (x : V) (lo : Lo) (H : Hp) : RS := optS (x.asRef fun r => opt1 (H.get r) fun o => some (r, o)) fun p => match p.2 with
  | .range a b c => forceN (rsz a b c) fun m => forR tg ss c m a lo H
  | .list vs => forceN (Nat.succ (llen vs)) fun m => forL tg ss false p.1 m 0 lo H
  | .tup vs => forceN (Nat.succ (llen vs)) fun m => forL tg ss true p.1 m 0 lo H
  | _ => .bad

/-- one turn of a comprehension: the test, then the element -/
def compT (x : Pn) (t : Tx) (e : Ex) (v : V) (lo : Lo) (H : Hp) (acc : List V) : R (List V) :=
  (t (lo.set x v) H).bind fun b H1 => @Bool.rec (fun _ => R (List V)) (.ok acc H1) ((e (lo.set x v) H1).bind fun w H2 => .ok (lapp acc [w]) H2) b
def compR (x : Pn) (t : Tx) (e : Ex) (c : Int) (n : Nat) : Int → Lo → Hp → List V → R (List V) :=
  @Nat.rec (fun _ => Int → Lo → Hp → List V → R (List V)) (fun _ _ H acc => .ok acc H)
    (fun _ g i lo H acc => (compT x t e (.int i) lo H acc).bind fun acc' H' => forceI (Int.add i c) fun j => g j lo H' acc') n
def compL (x : Pn) (t : Tx) (e : Ex) (isT : Bool) (r : Pn) (n : Nat) : Nat → Lo → Hp → List V → R (List V) :=
  @Nat.rec (fun _ => Nat → Lo → Hp → List V → R (List V)) (fun _ _ _ _ => .bad)
    (fun _ g i lo H acc => opt (seqAt isT r H) fun vs => @Option.rec V (fun _ => R (List V)) (.ok acc H)
      (fun v => (compT x t e v lo H acc).bind fun acc' H' => forceN (Nat.succ i) fun j => g j lo H' acc') (nth vs i)) n
def compV (x : Pn) (t : Tx) (e : Ex) (s : V) (lo : Lo) (H : Hp) : R (List V) := opt (s.asRef fun r => opt1 (H.get r) fun o => some (r, o)) fun p => match p.2 with
  | .range a b c => forceN (rsz a b c) fun m => compR x t e c m a lo H []
  | .list vs => forceN (Nat.succ (llen vs)) fun m => compL x t e false p.1 m 0 lo H []
  | .tup vs => forceN (Nat.succ (llen vs)) fun m => compL x t e true p.1 m 0 lo H []
  | _ => .bad

/-! the constructs -/

def e_lit (v : V) : Ex := fun _ H => .ok v H
def e_loc (i : Pn) : Ex := fun lo H => opt (lo.get i) fun v => .ok v H
def e_bin (f : Int → Int → Option Int) (a b : Ex) : Ex := fun lo H => (a lo H).bind fun x H1 => (b lo H1).bind fun y H2 => x.intR fun i => y.intR fun j => opt (f i j) fun z => forceI z fun z => .ok (.int z) H2
def e_bin2 (f : V → V → Hp → R V) (a b : Ex) : Ex := fun lo H => (a lo H).bind fun x H1 => (b lo H1).bind fun y H2 => f x y H2
def e_inv (a : Ex) : Ex := fun lo H => (a lo H).bind fun x H1 => x.intR fun i => forceI (Int.sub (Int.neg i) 1) fun z => .ok (.int z) H1
def e_neg (a : Ex) : Ex := fun lo H => (a lo H).bind fun x H1 => x.intR fun i => forceI (Int.neg i) fun z => .ok (.int z) H1
def e_notv (a : Ex) : Ex := fun lo H => (a lo H).bind fun x H1 => match x with | .bool b => bif_ b (.ok (.bool false) H1) (.ok (.bool true) H1) | _ => .bad
/-- and, or of two: the first's value where it decides -/
def e_bool (isAnd : Bool) (a b : Ex) : Ex := fun lo H => (a lo H).bind fun x H1 => opt (truthV x) fun t => bif_ (Bool.xor isAnd t) (.ok x H1) (b lo H1)
def e_cmp (f : CmpF) (a b : Ex) : Ex := fun lo H => (a lo H).bind fun x H1 => (b lo H1).bind fun y H2 => opt (f x y H2) fun r => bif_ r (.ok (.bool true) H2) (.ok (.bool false) H2)
def e_sub (f : SubF) (a i : Ex) : Ex := fun lo H => (a lo H).bind fun x H1 => (i lo H1).bind fun y H2 => opt (f x y H2) fun v => .ok v H2
def e_no : Lo → Hp → R (Option V) := fun _ H => .ok Option.none H
def e_so (a : Ex) : Lo → Hp → R (Option V) := fun lo H => (a lo H).bind fun x H1 => .ok (some x) H1
def e_slc (a : Ex) (l h : Lo → Hp → R (Option V)) : Ex := fun lo H => (a lo H).bind fun x H1 => (l lo H1).bind fun y H2 => (h lo H2).bind fun z H3 => slcV x y z H3
def e_attr (a : Ex) (f : Pn) : Ex := fun lo H => (a lo H).bind fun x H1 => opt (attrV x f H1) fun v => .ok v H1
def e_lst (ts : Lx) : Ex := fun lo H => (ts lo H).bind fun vs H1 => grd (Nat.ble (llen vs) line) (H1.alloc (.list vs))
def e_tup (ts : Lx) : Ex := fun lo H => (ts lo H).bind fun vs H1 => grd (Nat.ble (llen vs) line) (H1.alloc (.tup vs))
def e_dict1 (k v : Ex) : Ex := fun lo H => (k lo H).bind fun x H1 => x.intR fun i => (v lo H1).bind fun y H2 => H2.alloc (.dict [(i, y)])
structure Fn where
  ps : List Pn
  body : Sx
def runF (f : Fn) (vs : List V) (H : Hp) : R V := opt (asgN f.ps vs .nil) fun lo => (f.body lo H).bindR fun fl _ H1 => @Fl.rec (fun _ => R V) (.ok .none H1) .bad (fun v => .ok v H1) fl
def e_call (f : Fn) (ts : Lx) : Ex := fun lo H => (ts lo H).bind fun vs H1 => runF f vs H1
def e_mk (c : Nat) (f : Fn) (ts : Lx) : Ex := fun lo H => (ts lo H).bind fun vs H1 => (H1.alloc (.ns 0 .nil)).bind fun _ H2 => (H2.alloc (.inst c H1.next)).bind fun x H3 =>
  (runF f (x :: vs) H3).bind fun r H4 => match r with | .none => .ok x H4 | _ => .bad
def e_rng (ts : Lx) : Ex := fun lo H => (ts lo H).bind fun vs H1 => opt (rangeV vs) fun o => H1.alloc o
def e_len (a : Ex) : Ex := fun lo H => (a lo H).bind fun x H1 => x.refR fun n => opt (H1.get n) fun o => o.listR fun vs => grd (Nat.ble (llen vs) line) (forceN (llen vs) fun m => .ok (.int (.ofNat m)) H1)
def e_app (o x : Ex) : Ex := fun lo H => (o lo H).bind fun a H1 => a.refR fun n => opt (H1.get n) fun p => p.listR fun _ => (x lo H1).bind fun y H2 => opt (H2.get n) fun q => q.listR fun vs =>
  grd (Nat.ble (llen vs) line) (.ok .none (H2.set n (.list (lapp vs [y]))))
def e_comp (x : Pn) (it : Ex) (ifs : Tx) (elt : Ex) : Ex := fun lo H => (it lo H).bind fun s H1 => (compV x ifs elt s lo H1).bind fun vs H2 => grd (Nat.ble (llen vs) line) (H2.alloc (.list vs))

def l_nil : Lx := fun _ H => .ok [] H
def l_cons (a : Ex) (r : Lx) : Lx := fun lo H => (a lo H).bind fun v H1 => (r lo H1).bind fun vs H2 => .ok (v :: vs) H2

def t_tt (b : Bool) : Tx := fun _ H => .ok b H
def t_not (a : Tx) : Tx := fun lo H => (a lo H).bind fun b H1 => bif_ b (.ok false H1) (.ok true H1)
def t_and (isAnd : Bool) (a r : Tx) : Tx := fun lo H => (a lo H).bind fun b H1 => bif_ (Bool.xor isAnd b) (.ok b H1) (r lo H1)
def t_cmp (f : CmpF) (a b : Ex) : Tx := fun lo H => (a lo H).bind fun x H1 => (b lo H1).bind fun y H2 => opt (f x y H2) fun r => .ok r H2
def t_val (a : Ex) : Tx := fun lo H => (a lo H).bind fun x H1 => opt (truthV x) fun b => .ok b H1

def augI (f : Int → Int → Option Int) (a b : V) : Option V := a.asInt fun x => b.asInt fun y => opt1 (f x y) fun z => forceI z fun z => some (.int z)
def s_asg (x : Pn) (e : Ex) : Sx := fun lo H => (e lo H).bindS fun v H1 => .ok .next (lo.set x v) H1
def s_asgT (xs : List Pn) (e : Ex) : Sx := fun lo H => (e lo H).bindS fun v H1 => optS (bindT (.many xs) v lo H1) fun lo' => .ok .next lo' H1
def s_asgA (ok : Nat → Pn → Bool) (o : Ex) (f : Pn) (e : Ex) : Sx := fun lo H => (e lo H).bindS fun v H1 => (o lo H1).bindS fun a H2 => optS (setA ok a f v H2) fun H3 => .ok .next lo H3
def s_asgS (g : SetF) (o i e : Ex) : Sx := fun lo H => (e lo H).bindS fun v H1 => (o lo H1).bindS fun a H2 => (i lo H2).bindS fun j H3 => optS (g a j v H3) fun H4 => .ok .next lo H4
def s_aug (x : Pn) (f : Int → Int → Option Int) (e : Ex) : Sx := fun lo H => optS (lo.get x) fun a => (e lo H).bindS fun v H1 => optS (augI f a v) fun z => .ok .next (lo.set x z) H1
def s_augA (ok : Nat → Pn → Bool) (o : Ex) (f : Pn) (g : Int → Int → Option Int) (e : Ex) : Sx := fun lo H => (o lo H).bindS fun a H1 => optS (attrV a f H1) fun x => (e lo H1).bindS fun v H2 =>
  optS (augI g x v) fun z => optS (setA ok a f z H2) fun H3 => .ok .next lo H3
def s_augS (o i : Ex) (g : Int → Int → Option Int) (e : Ex) : Sx := fun lo H => (o lo H).bindS fun a H1 => (i lo H1).bindS fun j H2 => optS (subL a j H2) fun x => (e lo H2).bindS fun v H3 =>
  optS (augI g x v) fun z => optS (setL a j z H3) fun H4 => .ok .next lo H4
def s_exp (e : Ex) : Sx := fun lo H => (e lo H).bindS fun _ H1 => .ok .next lo H1
def s_ite (t : Tx) (a b : Sx) : Sx := fun lo H => (t lo H).bindS fun r H1 => bif_ r (a lo H1) (b lo H1)
def s_whl (t : Tx) (b : Sx) : Sx := whlL t b 10000
def s_for (tg : Tg) (it : Ex) (b : Sx) : Sx := fun lo H => (it lo H).bindS fun s H1 => forV tg b s lo H1
def s_ret (e : Ex) : Sx := fun lo H => (e lo H).bindS fun v H1 => .ok (.ret v) lo H1
def s_cont : Sx := fun lo H => .ok .cont lo H
def s_bad : Sx := fun _ _ => .bad
def ss_nil : Sx := fun lo H => .ok .next lo H
def ss_cons (a r : Sx) : Sx := fun lo H => (a lo H).bindS fun f lo1 H1 => @Fl.rec (fun _ => RS) (r lo1 H1) (.ok .cont lo1 H1) (fun v => .ok (.ret v) lo1 H1) f
end
end Mine

namespace Mine
open PySem
noncomputable section
def okL : List (List Pn) := [[(.o (.i (.o (.o (.o (.o .e)))))), (.i (.i (.o (.i .e)))), (.o (.i .e)), (.i (.i (.i (.i .e)))), (.i (.i (.o (.o (.o .e))))), (.i (.o (.o (.i (.o .e))))), (.o (.o (.o (.o .e)))), (.i (.i (.i (.o (.o (.o .e)))))), (.i (.o (.i (.o (.i .e))))), (.i (.i (.i (.o (.i .e))))), (.o (.i (.i (.o .e)))), (.o (.o (.o (.o (.o .e))))), (.i (.o (.o (.i (.i .e))))), (.i .e)], [(.o (.o (.o (.o (.i .e))))), (.o (.i (.o (.o (.i .e))))), (.i (.i (.i (.i .e)))), .e, (.i (.i (.o (.o (.i .e))))), (.i (.o (.i (.i (.i (.o .e)))))), (.i (.i (.i (.o (.i (.o .e)))))), (.i (.i (.i (.o .e)))), (.o (.o (.o (.i (.i .e))))), (.i (.i (.i .e))), (.i (.o (.o (.o (.o .e))))), (.i (.o (.i (.i (.i .e)))))], [(.o (.i (.o (.o (.i .e))))), (.o (.i (.i (.o (.i .e))))), (.o (.o (.o (.i (.i .e))))), (.i (.i (.i .e)))]]
def lo0 : Lo := TrV.nil.set (.i (.o (.o (.o (.i .e))))) (.ref .e)
def pneq : Pn → Pn → Bool
  | .e, .e => true
  | .o p, .o q => pneq p q
  | .i p, .i q => pneq p q
  | _, _ => false
def memN : List Pn → Pn → Bool
  | [], _ => false
  | x :: r, n => match pneq x n with | true => true | false => memN r n
def okA (c : Nat) (f : Pn) : Bool := match nth okL c with
  | some l => memN l f
  | Option.none => false
/- more_than_one -/
def f0 : Fn := ⟨[(.o (.o (.i (.o .e))))], (ss_cons (s_ret (e_cmp cNe (e_bin iAnd (e_loc (.o (.o (.i (.o .e))))) (e_bin iSub (e_loc (.o (.o (.i (.o .e))))) (e_lit (.int 1)))) (e_lit (.int 0)))) ss_nil)⟩
/- squares_of -/
def f1 : Fn := ⟨[(.o (.o (.i (.o .e))))], (ss_cons (s_asg (.o (.o (.o (.i .e)))) (e_lst l_nil)) (ss_cons (s_asg (.o .e) (e_lit (.int 0))) (ss_cons (s_whl (t_val (e_loc (.o (.o (.i (.o .e)))))) (ss_cons (s_whl (t_not (t_val (e_bin iAnd (e_loc (.o (.o (.i (.o .e))))) (e_lit (.int 15))))) (ss_cons (s_aug (.o (.o (.i (.o .e)))) iShr (e_lit (.int 4))) (ss_cons (s_aug (.o .e) iAdd (e_lit (.int 4))) ss_nil))) (ss_cons (s_ite (t_val (e_bin iAnd (e_loc (.o (.o (.i (.o .e))))) (e_lit (.int 1)))) (ss_cons (s_exp (e_app (e_loc (.o (.o (.o (.i .e))))) (e_loc (.o .e)))) ss_nil) ss_nil) (ss_cons (s_aug (.o (.o (.i (.o .e)))) iShr (e_lit (.int 1))) (ss_cons (s_aug (.o .e) iAdd (e_lit (.int 1))) ss_nil))))) (ss_cons (s_ret (e_loc (.o (.o (.o (.i .e)))))) ss_nil))))⟩
/- make_piece -/
def f2 : Fn := ⟨[(.i (.i (.i .e))), (.o (.o (.o .e)))], (ss_cons (s_ret (e_bin iAdd (e_bin iMul (e_loc (.i (.i (.i .e)))) (e_lit (.int 8))) (e_loc (.o (.o (.o .e)))))) ss_nil)⟩
/- side_of -/
def f3 : Fn := ⟨[(.i (.o .e))], (ss_cons (s_ret (e_bin iShr (e_loc (.i (.o .e))) (e_lit (.int 3)))) ss_nil)⟩
/- kind_of -/
def f4 : Fn := ⟨[(.i (.o .e))], (ss_cons (s_ret (e_bin iAnd (e_loc (.i (.o .e))) (e_lit (.int 7)))) ss_nil)⟩
/- square_colour -/
def f5 : Fn := ⟨[.e, (.o .e)], (ss_cons (s_ret (e_bin iAnd (e_bin iAdd (e_bin iMod (e_loc (.o .e)) (e_attr (e_loc .e) (.o (.i .e)))) (e_bin iDiv (e_loc (.o .e)) (e_attr (e_loc .e) (.o (.i .e))))) (e_lit (.int 1)))) ss_nil)⟩
/- bishops_on_one_colour -/
def f6 : Fn := ⟨[(.i (.i (.o (.o .e))))], (ss_cons (s_asg (.i (.i (.i (.i (.o (.o .e)))))) (e_lit (.int 0))) (ss_cons (s_for (.one (.o .e)) (e_call f1 (l_cons (e_sub subL (e_attr (e_loc (.i (.i (.o (.o .e))))) (.i (.i (.i (.o .e))))) (e_lit (.int 3))) l_nil)) (ss_cons (s_aug (.i (.i (.i (.i (.o (.o .e)))))) iOr (e_bin iShl (e_lit (.int 1)) (e_call f5 (l_cons (e_attr (e_loc (.i (.i (.o (.o .e))))) .e) (l_cons (e_loc (.o .e)) l_nil))))) ss_nil)) (ss_cons (s_ret (e_cmp cNe (e_loc (.i (.i (.i (.i (.o (.o .e))))))) (e_lit (.int 3)))) ss_nil)))⟩
/- is_insufficient -/
def f7 : Fn := ⟨[(.i (.i (.o (.o .e))))], (ss_cons (s_asg (.i (.i (.i (.o .e)))) (e_attr (e_loc (.i (.i (.o (.o .e))))) (.i (.i (.i (.o .e)))))) (ss_cons (s_ite (t_cmp cNe (e_bin iOr (e_bin iOr (e_sub subL (e_loc (.i (.i (.i (.o .e))))) (e_lit (.int 1))) (e_sub subL (e_loc (.i (.i (.i (.o .e))))) (e_lit (.int 4)))) (e_sub subL (e_loc (.i (.i (.i (.o .e))))) (e_lit (.int 5)))) (e_lit (.int 0))) (ss_cons (s_ret (e_lit (.bool false))) ss_nil) ss_nil) (ss_cons (s_ite (t_cmp cEq (e_sub subL (e_loc (.i (.i (.i (.o .e))))) (e_lit (.int 2))) (e_lit (.int 0))) (ss_cons (s_ret (e_call f6 (l_cons (e_loc (.i (.i (.o (.o .e))))) l_nil))) ss_nil) ss_nil) (ss_cons (s_ret (e_bool true (e_cmp cEq (e_sub subL (e_loc (.i (.i (.i (.o .e))))) (e_lit (.int 3))) (e_lit (.int 0))) (e_notv (e_call f0 (l_cons (e_sub subL (e_loc (.i (.i (.i (.o .e))))) (e_lit (.int 2))) l_nil))))) ss_nil))))⟩
/- is_growing -/
def f8 : Fn := ⟨[(.i (.i (.o .e)))], (ss_cons (s_ret (e_bool false (e_cmp cGt (e_sub subC (e_lit (.ctup [1, 0, (-1), 0, 1, (-1), (-1), 1])) (e_loc (.i (.i (.o .e))))) (e_lit (.int 0))) (e_cmp cEq (e_loc (.i (.i (.o .e)))) (e_lit (.int 1))))) ss_nil)⟩
/- add_masks -/
def f9 : Fn := ⟨[.e], (ss_cons (s_asg (.i (.i (.i (.o (.o .e))))) (e_bin iSub (e_bin iShl (e_lit (.int 1)) (e_attr (e_loc .e) (.o (.i .e)))) (e_lit (.int 1)))) (ss_cons (s_asg (.i (.i (.o (.o (.o (.o .e)))))) (e_lit (.int 0))) (ss_cons (s_for (.one (.o (.i (.i (.i (.o (.o .e))))))) (e_rng (l_cons (e_attr (e_loc .e) (.o (.i (.i (.o .e))))) l_nil)) (ss_cons (s_exp (e_app (e_attr (e_loc .e) (.i (.i (.i (.o (.i .e)))))) (e_bin iShl (e_loc (.i (.i (.i (.o (.o .e)))))) (e_bin iMul (e_loc (.o (.i (.i (.i (.o (.o .e))))))) (e_attr (e_loc .e) (.o (.i .e))))))) (ss_cons (s_aug (.i (.i (.o (.o (.o (.o .e)))))) iOr (e_bin iShl (e_lit (.int 1)) (e_bin iMul (e_loc (.o (.i (.i (.i (.o (.o .e))))))) (e_attr (e_loc .e) (.o (.i .e)))))) ss_nil))) (ss_cons (s_for (.one (.i (.o (.i (.o (.i (.o .e))))))) (e_rng (l_cons (e_attr (e_loc .e) (.o (.i .e))) l_nil)) (ss_cons (s_exp (e_app (e_attr (e_loc .e) (.i (.i (.o (.i .e))))) (e_bin iShl (e_loc (.i (.i (.o (.o (.o (.o .e))))))) (e_loc (.i (.o (.i (.o (.i (.o .e)))))))))) ss_nil)) ss_nil))))⟩
/- inner_squares -/
def f10 : Fn := ⟨[.e, (.i (.i (.o .e)))], (ss_cons (s_asg (.o (.i (.o (.o (.o .e))))) (e_lit (.int 0))) (ss_cons (s_ite (t_cmp cGt (e_sub subC (e_lit (.ctup [0, 1, 0, (-1), 1, 1, (-1), (-1)])) (e_loc (.i (.i (.o .e))))) (e_lit (.int 0))) (ss_cons (s_aug (.o (.i (.o (.o (.o .e))))) iOr (e_sub subL (e_attr (e_loc .e) (.i (.i (.o (.i .e))))) (e_bin iSub (e_attr (e_loc .e) (.o (.i .e))) (e_lit (.int 1))))) ss_nil) ss_nil) (ss_cons (s_ite (t_cmp cLt (e_sub subC (e_lit (.ctup [0, 1, 0, (-1), 1, 1, (-1), (-1)])) (e_loc (.i (.i (.o .e))))) (e_lit (.int 0))) (ss_cons (s_aug (.o (.i (.o (.o (.o .e))))) iOr (e_sub subL (e_attr (e_loc .e) (.i (.i (.o (.i .e))))) (e_lit (.int 0)))) ss_nil) ss_nil) (ss_cons (s_ite (t_cmp cGt (e_sub subC (e_lit (.ctup [1, 0, (-1), 0, 1, (-1), (-1), 1])) (e_loc (.i (.i (.o .e))))) (e_lit (.int 0))) (ss_cons (s_aug (.o (.i (.o (.o (.o .e))))) iOr (e_sub subL (e_attr (e_loc .e) (.i (.i (.i (.o (.i .e)))))) (e_bin iSub (e_attr (e_loc .e) (.o (.i (.i (.o .e))))) (e_lit (.int 1))))) ss_nil) ss_nil) (ss_cons (s_ite (t_cmp cLt (e_sub subC (e_lit (.ctup [1, 0, (-1), 0, 1, (-1), (-1), 1])) (e_loc (.i (.i (.o .e))))) (e_lit (.int 0))) (ss_cons (s_aug (.o (.i (.o (.o (.o .e))))) iOr (e_sub subL (e_attr (e_loc .e) (.i (.i (.i (.o (.i .e)))))) (e_lit (.int 0)))) ss_nil) ss_nil) (ss_cons (s_ret (e_bin iAnd (e_attr (e_loc .e) (.i (.i (.i (.i .e))))) (e_inv (e_loc (.o (.i (.o (.o (.o .e))))))))) ss_nil))))))⟩
/- add_rays -/
def f11 : Fn := ⟨[.e], (ss_cons (s_asgA okA (e_loc .e) (.o (.o (.o (.o .e)))) (e_bin2 mulL (e_lst (l_cons (e_lit (.int 0)) l_nil)) (e_attr (e_loc .e) (.i .e)))) (ss_cons (s_for (.one (.i (.i (.o .e)))) (e_rng (l_cons (e_lit (.int 8)) l_nil)) (ss_cons (s_asg (.o (.i (.i (.o (.i (.o .e)))))) (e_call f10 (l_cons (e_loc .e) (l_cons (e_loc (.i (.i (.o .e)))) l_nil)))) (ss_cons (s_asg (.o (.o (.i (.o (.i (.o .e)))))) (e_bin iAdd (e_bin iMul (e_sub subC (e_lit (.ctup [1, 0, (-1), 0, 1, (-1), (-1), 1])) (e_loc (.i (.i (.o .e))))) (e_attr (e_loc .e) (.o (.i .e)))) (e_sub subC (e_lit (.ctup [0, 1, 0, (-1), 1, 1, (-1), (-1)])) (e_loc (.i (.i (.o .e))))))) (ss_cons (s_asg (.o (.i (.o (.i .e)))) (e_bin2 mulL (e_lst (l_cons (e_lit (.int 0)) l_nil)) (e_attr (e_loc .e) (.i .e)))) (ss_cons (s_asg (.o (.o (.i (.i (.o (.o .e)))))) (e_rng (l_cons (e_attr (e_loc .e) (.i .e)) l_nil))) (ss_cons (s_ite (t_val (e_call f8 (l_cons (e_loc (.i (.i (.o .e)))) l_nil))) (ss_cons (s_asg (.o (.o (.i (.i (.o (.o .e)))))) (e_rng (l_cons (e_bin iSub (e_attr (e_loc .e) (.i .e)) (e_lit (.int 1))) (l_cons (e_neg (e_lit (.int 1))) (l_cons (e_neg (e_lit (.int 1))) l_nil))))) ss_nil) ss_nil) (ss_cons (s_for (.one (.o .e)) (e_loc (.o (.o (.i (.i (.o (.o .e))))))) (ss_cons (s_ite (t_val (e_bin iAnd (e_bin iShr (e_loc (.o (.i (.i (.o (.i (.o .e))))))) (e_loc (.o .e))) (e_lit (.int 1)))) (ss_cons (s_asg (.o (.i (.o .e))) (e_bin iAdd (e_loc (.o .e)) (e_loc (.o (.o (.i (.o (.i (.o .e))))))))) (ss_cons (s_asgS setL (e_loc (.o (.i (.o (.i .e))))) (e_loc (.o .e)) (e_bin iOr (e_sub subL (e_loc (.o (.i (.o (.i .e))))) (e_loc (.o (.i (.o .e))))) (e_bin iShl (e_lit (.int 1)) (e_loc (.o (.i (.o .e))))))) (ss_cons (s_augS (e_attr (e_loc .e) (.o (.o (.o (.o .e))))) (e_loc (.o .e)) iOr (e_bin iShl (e_lit (.int 1)) (e_loc (.o (.i (.o .e)))))) ss_nil))) ss_nil) ss_nil)) (ss_cons (s_exp (e_app (e_attr (e_loc .e) (.o (.o (.o (.o (.o .e)))))) (e_loc (.o (.i (.o (.i .e))))))) ss_nil)))))))) ss_nil))⟩
/- add_pawns -/
def f12 : Fn := ⟨[.e], (ss_cons (s_for (.one (.o .e)) (e_rng (l_cons (e_attr (e_loc .e) (.i .e)) l_nil)) (ss_cons (s_exp (e_app (e_sub subL (e_attr (e_loc .e) (.i (.o (.i (.o (.i .e)))))) (e_lit (.int 0))) (e_bin iAnd (e_sub subL (e_attr (e_loc .e) (.o (.o (.o (.o .e))))) (e_loc (.o .e))) (e_bin iOr (e_sub subL (e_sub subL (e_attr (e_loc .e) (.o (.o (.o (.o (.o .e)))))) (e_lit (.int 4))) (e_loc (.o .e))) (e_sub subL (e_sub subL (e_attr (e_loc .e) (.o (.o (.o (.o (.o .e)))))) (e_lit (.int 7))) (e_loc (.o .e))))))) (ss_cons (s_exp (e_app (e_sub subL (e_attr (e_loc .e) (.i (.o (.i (.o (.i .e)))))) (e_lit (.int 1))) (e_bin iAnd (e_sub subL (e_attr (e_loc .e) (.o (.o (.o (.o .e))))) (e_loc (.o .e))) (e_bin iOr (e_sub subL (e_sub subL (e_attr (e_loc .e) (.o (.o (.o (.o (.o .e)))))) (e_lit (.int 5))) (e_loc (.o .e))) (e_sub subL (e_sub subL (e_attr (e_loc .e) (.o (.o (.o (.o (.o .e)))))) (e_lit (.int 6))) (e_loc (.o .e))))))) ss_nil))) ss_nil)⟩
/- add_knights -/
def f13 : Fn := ⟨[.e], (ss_cons (s_asg (.o (.i .e)) (e_attr (e_loc .e) (.o (.i .e)))) (ss_cons (s_asg (.i (.o (.o (.i (.o (.o .e)))))) (e_bin iAnd (e_attr (e_loc .e) (.i (.i (.i (.i .e))))) (e_inv (e_sub subL (e_attr (e_loc .e) (.i (.i (.o (.i .e))))) (e_lit (.int 0)))))) (ss_cons (s_asg (.o (.i (.o (.i (.o (.o .e)))))) (e_bin iAnd (e_attr (e_loc .e) (.i (.i (.i (.i .e))))) (e_inv (e_sub subL (e_attr (e_loc .e) (.i (.i (.o (.i .e))))) (e_bin iSub (e_loc (.o (.i .e))) (e_lit (.int 1))))))) (ss_cons (s_asg (.o (.o (.o (.i (.i (.o .e)))))) (e_bin iAnd (e_loc (.i (.o (.o (.i (.o (.o .e))))))) (e_inv (e_sub subL (e_attr (e_loc .e) (.i (.i (.o (.i .e))))) (e_lit (.int 1)))))) (ss_cons (s_asg (.i (.o (.o (.i (.i (.o .e)))))) (e_bin iAnd (e_loc (.o (.i (.o (.i (.o (.o .e))))))) (e_inv (e_sub subL (e_attr (e_loc .e) (.i (.i (.o (.i .e))))) (e_bin iSub (e_loc (.o (.i .e))) (e_lit (.int 2))))))) (ss_cons (s_for (.one (.o .e)) (e_rng (l_cons (e_attr (e_loc .e) (.i .e)) l_nil)) (ss_cons (s_asg (.o (.o (.i (.o .e)))) (e_bin iShl (e_lit (.int 1)) (e_loc (.o .e)))) (ss_cons (s_asg (.o (.o (.o (.i (.o (.o .e)))))) (e_bin iOr (e_bin iAnd (e_bin iShl (e_loc (.o (.o (.i (.o .e))))) (e_lit (.int 1))) (e_loc (.i (.o (.o (.i (.o (.o .e)))))))) (e_bin iAnd (e_bin iShr (e_loc (.o (.o (.i (.o .e))))) (e_lit (.int 1))) (e_loc (.o (.i (.o (.i (.o (.o .e)))))))))) (ss_cons (s_asg (.o (.o (.i (.o (.o (.o .e)))))) (e_bin iOr (e_bin iAnd (e_bin iShl (e_loc (.o (.o (.i (.o .e))))) (e_lit (.int 2))) (e_loc (.o (.o (.o (.i (.i (.o .e)))))))) (e_bin iAnd (e_bin iShr (e_loc (.o (.o (.i (.o .e))))) (e_lit (.int 2))) (e_loc (.i (.o (.o (.i (.i (.o .e)))))))))) (ss_cons (s_asg (.o (.o (.i (.i .e)))) (e_bin iOr (e_bin iOr (e_bin iOr (e_bin iShl (e_loc (.o (.o (.o (.i (.o (.o .e))))))) (e_bin iMul (e_lit (.int 2)) (e_loc (.o (.i .e))))) (e_bin iShr (e_loc (.o (.o (.o (.i (.o (.o .e))))))) (e_bin iMul (e_lit (.int 2)) (e_loc (.o (.i .e)))))) (e_bin iShl (e_loc (.o (.o (.i (.o (.o (.o .e))))))) (e_loc (.o (.i .e))))) (e_bin iShr (e_loc (.o (.o (.i (.o (.o (.o .e))))))) (e_loc (.o (.i .e)))))) (ss_cons (s_exp (e_app (e_attr (e_loc .e) (.i (.i (.i (.o (.o (.o .e))))))) (e_bin iAnd (e_loc (.o (.o (.i (.i .e))))) (e_attr (e_loc .e) (.i (.i (.i (.i .e)))))))) ss_nil)))))) ss_nil))))))⟩
/- add_castles -/
def f14 : Fn := ⟨[.e], (ss_cons (s_asgA okA (e_loc .e) (.i (.o (.o (.i (.i .e))))) (e_bin2 mulL (e_lst (l_cons (e_lit (.int 0)) l_nil)) (e_attr (e_loc .e) (.i .e)))) (ss_cons (s_asg (.i (.i (.o (.i (.i .e))))) (e_bin iDiv (e_attr (e_loc .e) (.o (.i .e))) (e_lit (.int 2)))) (ss_cons (s_for (.one (.o (.i (.o (.i (.o .e)))))) (e_rng (l_cons (e_lit (.int 4)) l_nil)) (ss_cons (s_asg (.o (.i (.i (.i .e)))) (e_bin iMul (e_bin iMul (e_bin iShr (e_loc (.o (.i (.o (.i (.o .e)))))) (e_lit (.int 1))) (e_bin iSub (e_attr (e_loc .e) (.o (.i (.i (.o .e))))) (e_lit (.int 1)))) (e_attr (e_loc .e) (.o (.i .e))))) (ss_cons (s_asg (.o (.o (.o (.i (.o .e))))) (e_bin iSub (e_attr (e_loc .e) (.o (.i .e))) (e_lit (.int 1)))) (ss_cons (s_asg (.o (.i (.i (.i (.o .e))))) (e_lit (.int 1))) (ss_cons (s_ite (t_val (e_bin iAnd (e_loc (.o (.i (.o (.i (.o .e)))))) (e_lit (.int 1)))) (ss_cons (s_asg (.o (.o (.o (.i (.o .e))))) (e_lit (.int 0))) (ss_cons (s_asg (.o (.i (.i (.i (.o .e))))) (e_neg (e_lit (.int 1)))) ss_nil)) ss_nil) (ss_cons (s_asg (.o (.i (.o .e))) (e_bin iAdd (e_loc (.i (.i (.o (.i (.i .e)))))) (e_bin iMul (e_lit (.int 2)) (e_loc (.o (.i (.i (.i (.o .e))))))))) (ss_cons (s_ite (t_and true (t_val (e_attr (e_loc .e) (.i (.i (.o (.o (.o .e))))))) (t_and true (t_cmp cGt (e_bin iMul (e_bin iSub (e_loc (.o (.o (.o (.i (.o .e)))))) (e_loc (.o (.i (.o .e))))) (e_loc (.o (.i (.i (.i (.o .e))))))) (e_lit (.int 0))) (t_tt true))) (ss_cons (s_exp (e_app (e_attr (e_loc .e) (.o (.i (.o (.o (.o (.o .e))))))) (e_tup (l_cons (e_bin iAdd (e_loc (.o (.i (.i (.i .e))))) (e_loc (.i (.i (.o (.i (.i .e))))))) (l_cons (e_bin iAdd (e_loc (.o (.i (.i (.i .e))))) (e_loc (.o (.i (.o .e))))) (l_cons (e_bin iAdd (e_loc (.o (.i (.i (.i .e))))) (e_loc (.o (.o (.o (.i (.o .e))))))) (l_cons (e_bin iSub (e_bin iAdd (e_loc (.o (.i (.i (.i .e))))) (e_loc (.o (.i (.o .e))))) (e_loc (.o (.i (.i (.i (.o .e))))))) l_nil))))))) (ss_cons (s_augS (e_attr (e_loc .e) (.i (.o (.o (.i (.i .e)))))) (e_bin iAdd (e_loc (.o (.i (.i (.i .e))))) (e_loc (.i (.i (.o (.i (.i .e))))))) iOr (e_bin iShl (e_lit (.int 1)) (e_loc (.o (.i (.o (.i (.o .e)))))))) (ss_cons (s_augS (e_attr (e_loc .e) (.i (.o (.o (.i (.i .e)))))) (e_bin iAdd (e_loc (.o (.i (.i (.i .e))))) (e_loc (.o (.o (.o (.i (.o .e))))))) iOr (e_bin iShl (e_lit (.int 1)) (e_loc (.o (.i (.o (.i (.o .e)))))))) ss_nil))) (ss_cons (s_exp (e_app (e_attr (e_loc .e) (.o (.i (.o (.o (.o (.o .e))))))) (e_lit .none))) ss_nil)) ss_nil))))))) ss_nil)))⟩
/- Geometry.__init__ -/
def c0 : Fn := ⟨[(.o (.o .e)), (.o (.i .e)), (.o (.i (.i (.o .e)))), (.i (.o (.o (.i (.o .e))))), (.i (.i (.o (.o (.o .e)))))], (ss_cons (s_asgA okA (e_loc (.o (.o .e))) (.o (.i .e)) (e_loc (.o (.i .e)))) (ss_cons (s_asgA okA (e_loc (.o (.o .e))) (.o (.i (.i (.o .e)))) (e_loc (.o (.i (.i (.o .e)))))) (ss_cons (s_asgA okA (e_loc (.o (.o .e))) (.i .e) (e_bin iMul (e_loc (.o (.i .e))) (e_loc (.o (.i (.i (.o .e))))))) (ss_cons (s_asgA okA (e_loc (.o (.o .e))) (.i (.i (.i (.i .e)))) (e_bin iSub (e_bin iShl (e_lit (.int 1)) (e_bin iMul (e_loc (.o (.i .e))) (e_loc (.o (.i (.i (.o .e))))))) (e_lit (.int 1)))) (ss_cons (s_asgA okA (e_loc (.o (.o .e))) (.i (.o (.o (.i (.o .e))))) (e_bool true (e_loc (.i (.o (.o (.i (.o .e)))))) (e_cmp cGe (e_loc (.o (.i (.i (.o .e))))) (e_lit (.int 5))))) (ss_cons (s_asgA okA (e_loc (.o (.o .e))) (.i (.i (.o (.o (.o .e))))) (e_loc (.i (.i (.o (.o (.o .e))))))) (ss_cons (s_asgA okA (e_loc (.o (.o .e))) (.i (.i (.o (.i .e)))) (e_lst l_nil)) (ss_cons (s_asgA okA (e_loc (.o (.o .e))) (.i (.i (.i (.o (.i .e))))) (e_lst l_nil)) (ss_cons (s_asgA okA (e_loc (.o (.o .e))) (.o (.o (.o (.o (.o .e))))) (e_lst l_nil)) (ss_cons (s_asgA okA (e_loc (.o (.o .e))) (.o (.o (.o (.o .e)))) (e_lst l_nil)) (ss_cons (s_asgA okA (e_loc (.o (.o .e))) (.i (.i (.i (.o (.o (.o .e)))))) (e_lst l_nil)) (ss_cons (s_asgA okA (e_loc (.o (.o .e))) (.i (.o (.i (.o (.i .e))))) (e_lst (l_cons (e_lst l_nil) (l_cons (e_lst l_nil) l_nil)))) (ss_cons (s_asgA okA (e_loc (.o (.o .e))) (.o (.i (.o (.o (.o (.o .e)))))) (e_lst l_nil)) (ss_cons (s_asgA okA (e_loc (.o (.o .e))) (.i (.o (.o (.i (.i .e))))) (e_lst l_nil)) ss_nil))))))))))))))⟩
/- make_geometry -/
def f15 : Fn := ⟨[(.o (.i .e)), (.o (.i (.i (.o .e)))), (.i (.o (.o (.i (.o .e))))), (.i (.i (.o (.o (.o .e)))))], (ss_cons (s_ite (t_and false (t_cmp cLt (e_loc (.o (.i .e))) (e_lit (.int 2))) (t_and false (t_cmp cGt (e_loc (.o (.i .e))) (e_lit (.int 8))) (t_and false (t_cmp cLt (e_loc (.o (.i (.i (.o .e))))) (e_lit (.int 3))) (t_and false (t_cmp cGt (e_loc (.o (.i (.i (.o .e))))) (e_lit (.int 8))) (t_tt false))))) (ss_cons s_bad ss_nil) ss_nil) (ss_cons (s_asg .e (e_mk 0 c0 (l_cons (e_loc (.o (.i .e))) (l_cons (e_loc (.o (.i (.i (.o .e))))) (l_cons (e_loc (.i (.o (.o (.i (.o .e)))))) (l_cons (e_loc (.i (.i (.o (.o (.o .e)))))) l_nil)))))) (ss_cons (s_exp (e_call f9 (l_cons (e_loc .e) l_nil))) (ss_cons (s_exp (e_call f11 (l_cons (e_loc .e) l_nil))) (ss_cons (s_exp (e_call f12 (l_cons (e_loc .e) l_nil))) (ss_cons (s_exp (e_call f13 (l_cons (e_loc .e) l_nil))) (ss_cons (s_exp (e_call f14 (l_cons (e_loc .e) l_nil))) (ss_cons (s_ret (e_loc .e)) ss_nil))))))))⟩
/- put_piece -/
def f16 : Fn := ⟨[(.i (.i (.o (.o .e)))), (.i (.o .e)), (.o (.i (.o (.i (.i .e)))))], (ss_cons (s_asg (.i (.o (.o (.o (.o (.o .e)))))) (e_bin iShl (e_lit (.int 1)) (e_loc (.o (.i (.o (.i (.i .e)))))))) (ss_cons (s_asgS setL (e_attr (e_loc (.i (.i (.o (.o .e))))) (.o (.o (.o (.o (.i .e)))))) (e_loc (.o (.i (.o (.i (.i .e)))))) (e_loc (.i (.o .e)))) (ss_cons (s_augS (e_attr (e_loc (.i (.i (.o (.o .e))))) (.i (.i (.i (.o .e))))) (e_call f4 (l_cons (e_loc (.i (.o .e))) l_nil)) iOr (e_loc (.i (.o (.o (.o (.o (.o .e)))))))) (ss_cons (s_augS (e_attr (e_loc (.i (.i (.o (.o .e))))) (.i (.o (.o (.o (.o .e)))))) (e_call f3 (l_cons (e_loc (.i (.o .e))) l_nil)) iOr (e_loc (.i (.o (.o (.o (.o (.o .e)))))))) (ss_cons (s_augA okA (e_loc (.i (.i (.o (.o .e))))) (.i (.i (.i (.o (.i (.o .e)))))) iXor (e_sub subL (e_sub subL (e_attr (e_attr (e_loc (.i (.i (.o (.o .e))))) (.i (.o (.i (.i (.i .e)))))) (.o (.i (.i (.o (.i .e)))))) (e_loc (.i (.o .e)))) (e_loc (.o (.i (.o (.i (.i .e)))))))) ss_nil)))))⟩
/- ray_attacks -/
def f17 : Fn := ⟨[.e, (.i (.i (.o .e))), (.o .e), (.i (.o (.o (.o .e))))], (ss_cons (s_asg (.o (.i (.o (.i .e)))) (e_sub subL (e_sub subL (e_attr (e_loc .e) (.o (.o (.o (.o (.o .e)))))) (e_loc (.i (.i (.o .e))))) (e_loc (.o .e)))) (ss_cons (s_asg (.i (.o (.i (.i (.o .e))))) (e_bin iAnd (e_loc (.o (.i (.o (.i .e))))) (e_loc (.i (.o (.o (.o .e))))))) (ss_cons (s_ite (t_cmp cEq (e_loc (.i (.o (.i (.i (.o .e)))))) (e_lit (.int 0))) (ss_cons (s_ret (e_loc (.o (.i (.o (.i .e)))))) ss_nil) ss_nil) (ss_cons (s_ite (t_val (e_call f8 (l_cons (e_loc (.i (.i (.o .e)))) l_nil))) (ss_cons (s_ret (e_bin iAnd (e_loc (.o (.i (.o (.i .e))))) (e_bin iXor (e_loc (.i (.o (.i (.i (.o .e)))))) (e_bin iSub (e_loc (.i (.o (.i (.i (.o .e)))))) (e_lit (.int 1)))))) ss_nil) ss_nil) (ss_cons (s_asg (.o (.i (.i .e))) (e_bin iShr (e_loc (.i (.o (.i (.i (.o .e)))))) (e_lit (.int 1)))) (ss_cons (s_aug (.o (.i (.i .e))) iOr (e_bin iShr (e_loc (.o (.i (.i .e)))) (e_lit (.int 1)))) (ss_cons (s_aug (.o (.i (.i .e))) iOr (e_bin iShr (e_loc (.o (.i (.i .e)))) (e_lit (.int 2)))) (ss_cons (s_aug (.o (.i (.i .e))) iOr (e_bin iShr (e_loc (.o (.i (.i .e)))) (e_lit (.int 4)))) (ss_cons (s_aug (.o (.i (.i .e))) iOr (e_bin iShr (e_loc (.o (.i (.i .e)))) (e_lit (.int 8)))) (ss_cons (s_aug (.o (.i (.i .e))) iOr (e_bin iShr (e_loc (.o (.i (.i .e)))) (e_lit (.int 16)))) (ss_cons (s_aug (.o (.i (.i .e))) iOr (e_bin iShr (e_loc (.o (.i (.i .e)))) (e_lit (.int 32)))) (ss_cons (s_ret (e_bin iAnd (e_loc (.o (.i (.o (.i .e))))) (e_inv (e_loc (.o (.i (.i .e))))))) ss_nil))))))))))))⟩
/- rook_attacks -/
def f18 : Fn := ⟨[.e, (.o .e), (.i (.o (.o (.o .e))))], (ss_cons (s_asg (.o (.o (.i (.i .e)))) (e_lit (.int 0))) (ss_cons (s_for (.one (.i (.i (.o .e)))) (e_rng (l_cons (e_lit (.int 4)) l_nil)) (ss_cons (s_aug (.o (.o (.i (.i .e)))) iOr (e_call f17 (l_cons (e_loc .e) (l_cons (e_loc (.i (.i (.o .e)))) (l_cons (e_loc (.o .e)) (l_cons (e_loc (.i (.o (.o (.o .e))))) l_nil)))))) ss_nil)) (ss_cons (s_ret (e_loc (.o (.o (.i (.i .e)))))) ss_nil)))⟩
/- bishop_attacks -/
def f19 : Fn := ⟨[.e, (.o .e), (.i (.o (.o (.o .e))))], (ss_cons (s_asg (.o (.o (.i (.i .e)))) (e_lit (.int 0))) (ss_cons (s_for (.one (.i (.i (.o .e)))) (e_rng (l_cons (e_lit (.int 4)) (l_cons (e_lit (.int 8)) l_nil))) (ss_cons (s_aug (.o (.o (.i (.i .e)))) iOr (e_call f17 (l_cons (e_loc .e) (l_cons (e_loc (.i (.i (.o .e)))) (l_cons (e_loc (.o .e)) (l_cons (e_loc (.i (.o (.o (.o .e))))) l_nil)))))) ss_nil)) (ss_cons (s_ret (e_loc (.o (.o (.i (.i .e)))))) ss_nil)))⟩
/- queen_attacks -/
def f20 : Fn := ⟨[.e, (.o .e), (.i (.o (.o (.o .e))))], (ss_cons (s_ret (e_bin iOr (e_call f18 (l_cons (e_loc .e) (l_cons (e_loc (.o .e)) (l_cons (e_loc (.i (.o (.o (.o .e))))) l_nil)))) (e_call f19 (l_cons (e_loc .e) (l_cons (e_loc (.o .e)) (l_cons (e_loc (.i (.o (.o (.o .e))))) l_nil)))))) ss_nil)⟩
/- slider_attacks -/
def f21 : Fn := ⟨[.e, (.o (.o (.o .e))), (.o .e), (.i (.o (.o (.o .e))))], (ss_cons (s_ite (t_cmp cEq (e_loc (.o (.o (.o .e)))) (e_lit (.int 3))) (ss_cons (s_ret (e_call f19 (l_cons (e_loc .e) (l_cons (e_loc (.o .e)) (l_cons (e_loc (.i (.o (.o (.o .e))))) l_nil))))) ss_nil) ss_nil) (ss_cons (s_ite (t_cmp cEq (e_loc (.o (.o (.o .e)))) (e_lit (.int 4))) (ss_cons (s_ret (e_call f18 (l_cons (e_loc .e) (l_cons (e_loc (.o .e)) (l_cons (e_loc (.i (.o (.o (.o .e))))) l_nil))))) ss_nil) ss_nil) (ss_cons (s_ite (t_cmp cEq (e_loc (.o (.o (.o .e)))) (e_lit (.int 5))) (ss_cons (s_ret (e_call f20 (l_cons (e_loc .e) (l_cons (e_loc (.o .e)) (l_cons (e_loc (.i (.o (.o (.o .e))))) l_nil))))) ss_nil) ss_nil) (ss_cons (s_ret (e_lit (.int 0))) ss_nil))))⟩
/- piece_attacks -/
def f22 : Fn := ⟨[.e, (.i (.i (.i .e))), (.o (.o (.o .e))), (.o .e), (.i (.o (.o (.o .e))))], (ss_cons (s_ite (t_cmp cEq (e_loc (.o (.o (.o .e)))) (e_lit (.int 1))) (ss_cons (s_ret (e_sub subL (e_sub subL (e_attr (e_loc .e) (.i (.o (.i (.o (.i .e)))))) (e_loc (.i (.i (.i .e))))) (e_loc (.o .e)))) ss_nil) ss_nil) (ss_cons (s_ite (t_cmp cEq (e_loc (.o (.o (.o .e)))) (e_lit (.int 2))) (ss_cons (s_ret (e_sub subL (e_attr (e_loc .e) (.i (.i (.i (.o (.o (.o .e))))))) (e_loc (.o .e)))) ss_nil) ss_nil) (ss_cons (s_ite (t_cmp cEq (e_loc (.o (.o (.o .e)))) (e_lit (.int 6))) (ss_cons (s_ret (e_sub subL (e_attr (e_loc .e) (.o (.o (.o (.o .e))))) (e_loc (.o .e)))) ss_nil) ss_nil) (ss_cons (s_ret (e_call f21 (l_cons (e_loc .e) (l_cons (e_loc (.o (.o (.o .e)))) (l_cons (e_loc (.o .e)) (l_cons (e_loc (.i (.o (.o (.o .e))))) l_nil)))))) ss_nil))))⟩
/- solve -/
def f23 : Fn := ⟨[(.i (.o (.o (.o (.o .e))))), (.i (.o (.o (.i .e)))), (.i (.i (.o (.i (.o .e)))))], (ss_cons (s_asg (.i (.o (.i (.i .e)))) (e_bin2 mulL (e_lst (l_cons (e_lit (.int (-1))) l_nil)) (e_len (e_loc (.i (.o (.o (.i .e)))))))) (ss_cons (s_asg (.o (.o (.i (.o (.i .e))))) (e_lst l_nil)) (ss_cons (s_asg (.i (.i (.i (.i (.i .e))))) (e_comp (.i (.o (.o .e))) (e_loc (.i (.o (.o (.i .e))))) (t_tt true) (e_lst l_nil))) (ss_cons (s_asg (.o (.o (.i (.i (.o .e))))) (e_lst l_nil)) (ss_cons (s_for (.one (.i (.o (.o .e)))) (e_rng (l_cons (e_len (e_loc (.i (.o (.o (.i .e)))))) l_nil)) (ss_cons (s_exp (e_app (e_loc (.o (.o (.i (.o (.i .e)))))) (e_len (e_sub subL (e_loc (.i (.o (.o (.i .e))))) (e_loc (.i (.o (.o .e)))))))) (ss_cons (s_for (.one (.i (.o (.i (.o (.o .e)))))) (e_sub subL (e_loc (.i (.o (.o (.i .e))))) (e_loc (.i (.o (.o .e))))) (ss_cons (s_ite (t_cmp cNe (e_loc (.i (.o (.i (.o (.o .e)))))) (e_lit (.int (-1)))) (ss_cons (s_exp (e_app (e_sub subL (e_loc (.i (.i (.i (.i (.i .e)))))) (e_loc (.i (.o (.i (.o (.o .e))))))) (e_loc (.i (.o (.o .e)))))) ss_nil) ss_nil) ss_nil)) (ss_cons (s_ite (t_val (e_sub subL (e_loc (.i (.i (.o (.i (.o .e)))))) (e_loc (.i (.o (.o .e)))))) (ss_cons (s_asgS setL (e_loc (.i (.o (.i (.i .e))))) (e_loc (.i (.o (.o .e)))) (e_lit (.int 0))) (ss_cons (s_exp (e_app (e_loc (.o (.o (.i (.i (.o .e)))))) (e_loc (.i (.o (.o .e)))))) ss_nil)) ss_nil) ss_nil)))) (ss_cons (s_asg (.i (.i (.i (.i (.o .e))))) (e_lit (.int 0))) (ss_cons (s_whl (t_cmp cLt (e_loc (.i (.i (.i (.i (.o .e)))))) (e_len (e_loc (.o (.o (.i (.i (.o .e)))))))) (ss_cons (s_asg (.i (.o (.i (.o (.o .e))))) (e_sub subL (e_loc (.o (.o (.i (.i (.o .e)))))) (e_loc (.i (.i (.i (.i (.o .e)))))))) (ss_cons (s_aug (.i (.i (.i (.i (.o .e))))) iAdd (e_lit (.int 1))) (ss_cons (s_for (.one (.i (.o (.o .e)))) (e_sub subL (e_loc (.i (.i (.i (.i (.i .e)))))) (e_loc (.i (.o (.i (.o (.o .e))))))) (ss_cons (s_augS (e_loc (.o (.o (.i (.o (.i .e)))))) (e_loc (.i (.o (.o .e)))) iSub (e_lit (.int 1))) (ss_cons (s_ite (t_and true (t_cmp cEq (e_sub subL (e_loc (.i (.o (.i (.i .e))))) (e_loc (.i (.o (.o .e))))) (e_lit (.int (-1)))) (t_and true (t_and false (t_cmp cEq (e_sub subL (e_loc (.i (.o (.o (.o (.o .e)))))) (e_loc (.i (.o (.o .e))))) (e_lit (.int 0))) (t_and false (t_cmp cEq (e_sub subL (e_loc (.o (.o (.i (.o (.i .e)))))) (e_loc (.i (.o (.o .e))))) (e_lit (.int 0))) (t_tt false))) (t_tt true))) (ss_cons (s_asgS setL (e_loc (.i (.o (.i (.i .e))))) (e_loc (.i (.o (.o .e)))) (e_bin iAdd (e_sub subL (e_loc (.i (.o (.i (.i .e))))) (e_loc (.i (.o (.i (.o (.o .e))))))) (e_lit (.int 1)))) (ss_cons (s_exp (e_app (e_loc (.o (.o (.i (.i (.o .e)))))) (e_loc (.i (.o (.o .e)))))) ss_nil)) ss_nil) ss_nil))) ss_nil)))) (ss_cons (s_ret (e_loc (.i (.o (.i (.i .e)))))) ss_nil))))))))⟩
/- index_of -/
def f24 : Fn := ⟨[(.i .e), (.i (.i (.i .e))), (.i (.i .e)), (.i (.o .e)), (.o (.o (.i .e)))], (ss_cons (s_ret (e_bin iAdd (e_bin iMul (e_bin iAdd (e_bin iMul (e_bin iAdd (e_bin iMul (e_loc (.i (.i (.i .e)))) (e_loc (.i .e))) (e_loc (.i (.i .e)))) (e_loc (.i .e))) (e_loc (.i (.o .e)))) (e_loc (.i .e))) (e_loc (.o (.o (.i .e)))))) ss_nil)⟩
/- parts_of -/
def f25 : Fn := ⟨[(.i .e), (.i (.o (.o .e)))], (ss_cons (s_ret (e_tup (l_cons (e_bin iDiv (e_loc (.i (.o (.o .e)))) (e_bin iMul (e_bin iMul (e_loc (.i .e)) (e_loc (.i .e))) (e_loc (.i .e)))) (l_cons (e_bin iMod (e_bin iDiv (e_loc (.i (.o (.o .e)))) (e_bin iMul (e_loc (.i .e)) (e_loc (.i .e)))) (e_loc (.i .e))) (l_cons (e_bin iMod (e_bin iDiv (e_loc (.i (.o (.o .e)))) (e_loc (.i .e))) (e_loc (.i .e))) (l_cons (e_bin iMod (e_loc (.i (.o (.o .e)))) (e_loc (.i .e))) l_nil)))))) ss_nil)⟩
/- mark_places -/
def f26 : Fn := ⟨[.e, (.o (.o (.o .e))), (.o (.i (.i (.i (.i .e))))), (.i (.o (.i .e)))], (ss_cons (s_asg (.i .e) (e_attr (e_loc .e) (.i .e))) (ss_cons (s_asg (.i (.o (.i (.o .e)))) (e_lst l_nil)) (ss_cons (s_for (.one (.i (.i .e))) (e_rng (l_cons (e_loc (.i .e)) l_nil)) (ss_cons (s_for (.one (.i (.o .e))) (e_rng (l_cons (e_loc (.i .e)) l_nil)) (ss_cons (s_asg (.o (.i (.i (.o (.o (.o .e)))))) (e_bin iAnd (e_attr (e_loc .e) (.i (.i (.i (.i .e))))) (e_inv (e_bin iOr (e_bin iOr (e_sub subL (e_attr (e_loc .e) (.o (.o (.o (.o .e))))) (e_loc (.i (.i .e)))) (e_bin iShl (e_lit (.int 1)) (e_loc (.i (.i .e))))) (e_bin iShl (e_lit (.int 1)) (e_loc (.i (.o .e)))))))) (ss_cons (s_ite (t_and false (t_cmp cEq (e_bin iAnd (e_bin iShr (e_loc (.o (.i (.i (.i (.i .e)))))) (e_loc (.i (.i .e)))) (e_lit (.int 1))) (e_lit (.int 0))) (t_and false (t_cmp cEq (e_loc (.i (.o .e))) (e_loc (.i (.i .e)))) (t_and false (t_cmp cEq (e_loc (.o (.i (.i (.o (.o (.o .e))))))) (e_lit (.int 0))) (t_tt false)))) (ss_cons s_cont ss_nil) ss_nil) (ss_cons (s_asg (.i (.i (.o (.o (.i (.o .e)))))) (e_call f22 (l_cons (e_loc .e) (l_cons (e_lit (.int 0)) (l_cons (e_loc (.o (.o (.o .e)))) (l_cons (e_loc (.i (.o .e))) (l_cons (e_bin iShl (e_lit (.int 1)) (e_loc (.i (.i .e)))) l_nil))))))) (ss_cons (s_for (.one (.o (.o (.i .e)))) (e_rng (l_cons (e_loc (.i .e)) l_nil)) (ss_cons (s_ite (t_val (e_bin iAnd (e_bin iShr (e_loc (.o (.i (.i (.o (.o (.o .e))))))) (e_loc (.o (.o (.i .e))))) (e_lit (.int 1)))) (ss_cons (s_exp (e_app (e_loc (.i (.o (.i (.o .e))))) (e_call f24 (l_cons (e_loc (.i .e)) (l_cons (e_lit (.int 1)) (l_cons (e_loc (.i (.i .e))) (l_cons (e_loc (.i (.o .e))) (l_cons (e_loc (.o (.o (.i .e)))) l_nil)))))))) (ss_cons (s_ite (t_cmp cEq (e_bin iAnd (e_bin iShr (e_loc (.i (.i (.o (.o (.i (.o .e))))))) (e_loc (.o (.o (.i .e))))) (e_lit (.int 1))) (e_lit (.int 0))) (ss_cons (s_exp (e_app (e_loc (.i (.o (.i (.o .e))))) (e_call f24 (l_cons (e_loc (.i .e)) (l_cons (e_lit (.int 0)) (l_cons (e_loc (.i (.i .e))) (l_cons (e_loc (.i (.o .e))) (l_cons (e_loc (.o (.o (.i .e)))) l_nil)))))))) ss_nil) ss_nil) ss_nil)) ss_nil) ss_nil)) ss_nil))))) ss_nil)) (ss_cons (s_for (.one (.i (.o (.o .e)))) (e_loc (.i (.o (.i (.o .e))))) (ss_cons (s_asgS setR (e_loc (.i (.o (.i .e)))) (e_loc (.i (.o (.o .e)))) (e_lit (.int (-1)))) ss_nil)) (ss_cons (s_ret (e_loc (.i (.o (.i (.o .e)))))) ss_nil)))))⟩
/- weak_moves -/
def f27 : Fn := ⟨[.e, (.i (.o (.i .e))), (.i (.i .e)), (.i (.o .e)), (.o (.o (.i .e)))], (ss_cons (s_asg (.o (.o (.o (.i .e)))) (e_lst l_nil)) (ss_cons (s_asg (.o (.o (.i (.i (.i .e))))) (e_sub subL (e_attr (e_loc .e) (.o (.o (.o (.o .e))))) (e_loc (.o (.o (.i .e)))))) (ss_cons (s_for (.one (.o (.i (.o .e)))) (e_rng (l_cons (e_attr (e_loc .e) (.i .e)) l_nil)) (ss_cons (s_ite (t_cmp cEq (e_bin iAnd (e_bin iShr (e_loc (.o (.o (.i (.i (.i .e)))))) (e_loc (.o (.i (.o .e))))) (e_lit (.int 1))) (e_lit (.int 0))) (ss_cons s_cont ss_nil) ss_nil) (ss_cons (s_ite (t_cmp cEq (e_loc (.o (.i (.o .e)))) (e_loc (.i (.o .e)))) (ss_cons (s_ite (t_cmp cEq (e_bin iAnd (e_bin iShr (e_sub subL (e_attr (e_loc .e) (.o (.o (.o (.o .e))))) (e_loc (.i (.i .e)))) (e_loc (.i (.o .e)))) (e_lit (.int 1))) (e_lit (.int 0))) (ss_cons (s_exp (e_app (e_loc (.o (.o (.o (.i .e))))) (e_tup (l_cons (e_loc (.o (.o (.i .e)))) (l_cons (e_loc (.o (.i (.o .e)))) (l_cons (e_lit (.int (-1))) l_nil)))))) ss_nil) ss_nil) ss_nil) (ss_cons (s_asg (.o (.i (.o (.o .e)))) (e_call f24 (l_cons (e_attr (e_loc .e) (.i .e)) (l_cons (e_lit (.int 0)) (l_cons (e_loc (.i (.i .e))) (l_cons (e_loc (.i (.o .e))) (l_cons (e_loc (.o (.i (.o .e)))) l_nil))))))) (ss_cons (s_ite (t_cmp cNe (e_sub subA (e_loc (.i (.o (.i .e)))) (e_loc (.o (.i (.o (.o .e)))))) (e_lit (.int (-2)))) (ss_cons (s_exp (e_app (e_loc (.o (.o (.o (.i .e))))) (e_tup (l_cons (e_loc (.o (.o (.i .e)))) (l_cons (e_loc (.o (.i (.o .e)))) (l_cons (e_loc (.o (.i (.o (.o .e))))) l_nil)))))) ss_nil) ss_nil) ss_nil))) ss_nil))) (ss_cons (s_ret (e_loc (.o (.o (.o (.i .e)))))) ss_nil))))⟩
/- strong_moves -/
def f28 : Fn := ⟨[.e, (.i (.o (.i .e))), (.o (.o (.o .e))), (.i (.i .e)), (.i (.o .e)), (.o (.o (.i .e)))], (ss_cons (s_asg (.o (.o (.o (.i .e)))) (e_lst l_nil)) (ss_cons (s_asg (.o (.o (.i (.i (.i .e))))) (e_sub subL (e_attr (e_loc .e) (.o (.o (.o (.o .e))))) (e_loc (.i (.i .e))))) (ss_cons (s_asg (.o (.o (.i (.i (.i (.o .e)))))) (e_call f22 (l_cons (e_loc .e) (l_cons (e_lit (.int 0)) (l_cons (e_loc (.o (.o (.o .e)))) (l_cons (e_loc (.i (.o .e))) (l_cons (e_bin iOr (e_bin iShl (e_lit (.int 1)) (e_loc (.i (.i .e)))) (e_bin iShl (e_lit (.int 1)) (e_loc (.o (.o (.i .e)))))) l_nil))))))) (ss_cons (s_for (.one (.o (.i (.o .e)))) (e_rng (l_cons (e_attr (e_loc .e) (.i .e)) l_nil)) (ss_cons (s_ite (t_val (e_bin iAnd (e_bin iShr (e_loc (.o (.o (.i (.i (.i .e)))))) (e_loc (.o (.i (.o .e))))) (e_lit (.int 1)))) (ss_cons (s_asg (.o (.i (.o (.o .e)))) (e_call f24 (l_cons (e_attr (e_loc .e) (.i .e)) (l_cons (e_lit (.int 1)) (l_cons (e_loc (.o (.i (.o .e)))) (l_cons (e_loc (.i (.o .e))) (l_cons (e_loc (.o (.o (.i .e)))) l_nil))))))) (ss_cons (s_ite (t_cmp cNe (e_sub subA (e_loc (.i (.o (.i .e)))) (e_loc (.o (.i (.o (.o .e)))))) (e_lit (.int (-2)))) (ss_cons (s_exp (e_app (e_loc (.o (.o (.o (.i .e))))) (e_tup (l_cons (e_loc (.i (.i .e))) (l_cons (e_loc (.o (.i (.o .e)))) (l_cons (e_loc (.o (.i (.o (.o .e))))) l_nil)))))) ss_nil) ss_nil) ss_nil)) ss_nil) ss_nil)) (ss_cons (s_for (.one (.o (.i (.o .e)))) (e_rng (l_cons (e_attr (e_loc .e) (.i .e)) l_nil)) (ss_cons (s_ite (t_val (e_bin iAnd (e_bin iShr (e_loc (.o (.o (.i (.i (.i (.o .e))))))) (e_loc (.o (.i (.o .e))))) (e_lit (.int 1)))) (ss_cons (s_asg (.o (.i (.o (.o .e)))) (e_call f24 (l_cons (e_attr (e_loc .e) (.i .e)) (l_cons (e_lit (.int 1)) (l_cons (e_loc (.i (.i .e))) (l_cons (e_loc (.o (.i (.o .e)))) (l_cons (e_loc (.o (.o (.i .e)))) l_nil))))))) (ss_cons (s_ite (t_cmp cNe (e_sub subA (e_loc (.i (.o (.i .e)))) (e_loc (.o (.i (.o (.o .e)))))) (e_lit (.int (-2)))) (ss_cons (s_exp (e_app (e_loc (.o (.o (.o (.i .e))))) (e_tup (l_cons (e_loc (.i (.o .e))) (l_cons (e_loc (.o (.i (.o .e)))) (l_cons (e_loc (.o (.i (.o (.o .e))))) l_nil)))))) ss_nil) ss_nil) ss_nil)) ss_nil) ss_nil)) (ss_cons (s_ret (e_loc (.o (.o (.o (.i .e)))))) ss_nil))))))⟩
/- moves_at -/
def f29 : Fn := ⟨[.e, (.i (.o (.i .e))), (.o (.o (.o .e))), (.i (.i (.i .e))), (.i (.i .e)), (.i (.o .e)), (.o (.o (.i .e)))], (ss_cons (s_ite (t_cmp cEq (e_loc (.i (.i (.i .e)))) (e_lit (.int 1))) (ss_cons (s_ret (e_call f27 (l_cons (e_loc .e) (l_cons (e_loc (.i (.o (.i .e)))) (l_cons (e_loc (.i (.i .e))) (l_cons (e_loc (.i (.o .e))) (l_cons (e_loc (.o (.o (.i .e)))) l_nil))))))) ss_nil) ss_nil) (ss_cons (s_ret (e_call f28 (l_cons (e_loc .e) (l_cons (e_loc (.i (.o (.i .e)))) (l_cons (e_loc (.o (.o (.o .e)))) (l_cons (e_loc (.i (.i .e))) (l_cons (e_loc (.i (.o .e))) (l_cons (e_loc (.o (.o (.i .e)))) l_nil)))))))) ss_nil))⟩
/- build_zone -/
def f30 : Fn := ⟨[.e, (.o (.o (.o .e))), (.o (.i (.i (.i (.i .e)))))], (ss_cons (s_ite (t_and false (t_cmp cLt (e_loc (.o (.o (.o .e)))) (e_lit (.int 2))) (t_and false (t_cmp cGt (e_loc (.o (.o (.o .e)))) (e_lit (.int 5))) (t_tt false))) (ss_cons s_bad ss_nil) ss_nil) (ss_cons (s_asg (.i (.i (.o (.o (.i .e))))) (e_bin iMul (e_bin iMul (e_attr (e_loc .e) (.i .e)) (e_attr (e_loc .e) (.i .e))) (e_attr (e_loc .e) (.i .e)))) (ss_cons (s_asg (.i (.o (.i .e))) (e_bin2 mulA (e_lst (l_cons (e_lit (.int (-2))) l_nil)) (e_bin iMul (e_lit (.int 2)) (e_loc (.i (.i (.o (.o (.i .e))))))))) (ss_cons (s_asg (.i (.o (.i (.o .e)))) (e_call f26 (l_cons (e_loc .e) (l_cons (e_loc (.o (.o (.o .e)))) (l_cons (e_loc (.o (.i (.i (.i (.i .e)))))) (l_cons (e_loc (.i (.o (.i .e)))) l_nil)))))) (ss_cons (s_asg (.i (.o (.o (.o (.i (.o .e)))))) (e_dict1 (e_lit (.int (-1))) (e_lit (.int (-1))))) (ss_cons (s_for (.one (.o (.o (.i (.o (.o .e)))))) (e_rng (l_cons (e_len (e_loc (.i (.o (.i (.o .e)))))) l_nil)) (ss_cons (s_asgS setD (e_loc (.i (.o (.o (.o (.i (.o .e))))))) (e_sub subL (e_loc (.i (.o (.i (.o .e))))) (e_loc (.o (.o (.i (.o (.o .e))))))) (e_loc (.o (.o (.i (.o (.o .e))))))) ss_nil)) (ss_cons (s_asg (.i (.o (.o (.o (.o .e))))) (e_lst l_nil)) (ss_cons (s_asg (.i (.o (.o (.i .e)))) (e_lst l_nil)) (ss_cons (s_asg (.i (.i (.o (.i (.o .e))))) (e_lst l_nil)) (ss_cons (s_for (.one (.i (.o (.o .e)))) (e_loc (.i (.o (.i (.o .e))))) (ss_cons (s_asgT [(.i (.i (.i .e))), (.i (.i .e)), (.i (.o .e)), (.o (.o (.i .e)))] (e_call f25 (l_cons (e_attr (e_loc .e) (.i .e)) (l_cons (e_loc (.i (.o (.o .e)))) l_nil)))) (ss_cons (s_asg (.i (.i (.i (.o (.o .e))))) (e_lst l_nil)) (ss_cons (s_for (.many [(.o (.i (.i (.i (.i (.o .e)))))), (.o (.i (.o .e))), (.o (.i (.o (.o .e))))]) (e_call f29 (l_cons (e_loc .e) (l_cons (e_loc (.i (.o (.i .e)))) (l_cons (e_loc (.o (.o (.o .e)))) (l_cons (e_loc (.i (.i (.i .e)))) (l_cons (e_loc (.i (.i .e))) (l_cons (e_loc (.i (.o .e))) (l_cons (e_loc (.o (.o (.i .e)))) l_nil)))))))) (ss_cons (s_exp (e_app (e_loc (.i (.i (.i (.o (.o .e)))))) (e_sub subD (e_loc (.i (.o (.o (.o (.i (.o .e))))))) (e_loc (.o (.i (.o (.o .e)))))))) ss_nil)) (ss_cons (s_exp (e_app (e_loc (.i (.o (.o (.o (.o .e)))))) (e_loc (.i (.i (.i .e)))))) (ss_cons (s_exp (e_app (e_loc (.i (.o (.o (.i .e))))) (e_loc (.i (.i (.i (.o (.o .e)))))))) (ss_cons (s_exp (e_app (e_loc (.i (.i (.o (.i (.o .e)))))) (e_bool true (e_cmp cEq (e_loc (.i (.i (.i .e)))) (e_lit (.int 1))) (e_bool true (e_cmp dEq (e_loc (.i (.i (.i (.o (.o .e)))))) (e_lst l_nil)) (e_cmp cEq (e_sub subA (e_loc (.i (.o (.i .e)))) (e_bin iSub (e_loc (.i (.o (.o .e)))) (e_loc (.i (.i (.o (.o (.i .e)))))))) (e_lit (.int (-2)))))))) ss_nil))))))) (ss_cons (s_asg (.i (.o (.i (.i .e)))) (e_call f23 (l_cons (e_loc (.i (.o (.o (.o (.o .e)))))) (l_cons (e_loc (.i (.o (.o (.i .e))))) (l_cons (e_loc (.i (.i (.o (.i (.o .e)))))) l_nil))))) (ss_cons (s_for (.one (.o (.o (.i (.o (.o .e)))))) (e_rng (l_cons (e_len (e_loc (.i (.o (.i (.o .e)))))) l_nil)) (ss_cons (s_asgS setR (e_loc (.i (.o (.i .e)))) (e_sub subL (e_loc (.i (.o (.i (.o .e))))) (e_loc (.o (.o (.i (.o (.o .e))))))) (e_sub subL (e_loc (.i (.o (.i (.i .e))))) (e_loc (.o (.o (.i (.o (.o .e)))))))) ss_nil)) (ss_cons (s_ret (e_loc (.i (.o (.i .e))))) ss_nil)))))))))))))⟩
/- Position.__init__ -/
def c1 : Fn := ⟨[(.o (.o .e)), .e, (.i (.o (.i (.i (.i .e)))))], (ss_cons (s_asgA okA (e_loc (.o (.o .e))) .e (e_loc .e)) (ss_cons (s_asgA okA (e_loc (.o (.o .e))) (.i (.o (.i (.i (.i .e))))) (e_loc (.i (.o (.i (.i (.i .e))))))) (ss_cons (s_asgA okA (e_loc (.o (.o .e))) (.o (.o (.o (.o (.i .e))))) (e_bin2 mulL (e_lst (l_cons (e_lit (.int 0)) l_nil)) (e_attr (e_loc .e) (.i .e)))) (ss_cons (s_asgA okA (e_loc (.o (.o .e))) (.i (.i (.i (.o .e)))) (e_bin2 mulL (e_lst (l_cons (e_lit (.int 0)) l_nil)) (e_lit (.int 7)))) (ss_cons (s_asgA okA (e_loc (.o (.o .e))) (.i (.o (.o (.o (.o .e))))) (e_lst (l_cons (e_lit (.int 0)) (l_cons (e_lit (.int 0)) l_nil)))) (ss_cons (s_asgA okA (e_loc (.o (.o .e))) (.i (.i (.i .e))) (e_lit (.int 0))) (ss_cons (s_asgA okA (e_loc (.o (.o .e))) (.o (.o (.o (.i (.i .e))))) (e_lit (.int 0))) (ss_cons (s_asgA okA (e_loc (.o (.o .e))) (.o (.i (.o (.o (.i .e))))) (e_neg (e_lit (.int 1)))) (ss_cons (s_asgA okA (e_loc (.o (.o .e))) (.i (.i (.o (.o (.i .e))))) (e_lit (.int 0))) (ss_cons (s_asgA okA (e_loc (.o (.o .e))) (.i (.i (.i (.i .e)))) (e_lit (.int 1))) (ss_cons (s_asgA okA (e_loc (.o (.o .e))) (.i (.i (.i (.o (.i (.o .e)))))) (e_lit (.int 0))) (ss_cons (s_asgA okA (e_loc (.o (.o .e))) (.i (.o (.i (.i (.i (.o .e)))))) (e_lst l_nil)) ss_nil))))))))))))⟩
/- Zobrist.__init__ -/
def c2 : Fn := ⟨[(.o (.o .e)), (.o (.i (.i (.o (.i .e))))), (.o (.i (.o (.o (.i .e))))), (.o (.o (.o (.i (.i .e))))), (.i (.i (.i .e)))], (ss_cons (s_asgA okA (e_loc (.o (.o .e))) (.o (.i (.i (.o (.i .e))))) (e_loc (.o (.i (.i (.o (.i .e))))))) (ss_cons (s_asgA okA (e_loc (.o (.o .e))) (.o (.i (.o (.o (.i .e))))) (e_loc (.o (.i (.o (.o (.i .e))))))) (ss_cons (s_asgA okA (e_loc (.o (.o .e))) (.o (.o (.o (.i (.i .e))))) (e_loc (.o (.o (.o (.i (.i .e))))))) (ss_cons (s_asgA okA (e_loc (.o (.o .e))) (.i (.i (.i .e))) (e_loc (.i (.i (.i .e))))) ss_nil))))⟩
/- _law_board -/
def f31 : Fn := ⟨[.e, (.i (.i .e)), (.o (.i (.i (.o (.o .e)))))], (ss_cons (s_asg (.i (.i (.o (.o .e)))) (e_mk 1 c1 (l_cons (e_loc .e) (l_cons (e_mk 2 c2 (l_cons (e_bin2 mulL (e_lst (l_cons (e_bin2 mulL (e_lst (l_cons (e_lit (.int 0)) l_nil)) (e_lit (.int 9))) l_nil)) (e_lit (.int 15))) (l_cons (e_bin2 mulL (e_lst (l_cons (e_lit (.int 0)) l_nil)) (e_lit (.int 3))) (l_cons (e_bin2 mulL (e_lst (l_cons (e_lit (.int 0)) l_nil)) (e_lit (.int 16))) (l_cons (e_lit (.int 0)) l_nil))))) l_nil)))) (ss_cons (s_for (.many [(.i (.i (.i .e))), (.o (.o (.o .e))), (.o .e)]) (e_loc (.o (.i (.i (.o (.o .e)))))) (ss_cons (s_exp (e_call f16 (l_cons (e_loc (.i (.i (.o (.o .e))))) (l_cons (e_call f2 (l_cons (e_bin iXor (e_loc (.i (.i (.i .e)))) (e_loc (.i (.i .e)))) (l_cons (e_loc (.o (.o (.o .e)))) l_nil))) (l_cons (e_loc (.o .e)) l_nil))))) ss_nil)) (ss_cons (s_ret (e_loc (.i (.i (.o (.o .e)))))) ss_nil)))⟩
def lawA (sm : Nat → Int → Option Int) : Sx := (ss_cons (s_asgT [(.o (.o (.o .e))), (.o (.o (.o (.o .e))))] (e_tup (l_cons (e_sub subT (e_tup (l_cons (e_lit (.int 4)) (l_cons (e_lit (.int 3)) (l_cons (e_lit (.int 2)) (l_cons (e_lit (.int 5)) l_nil))))) (e_bin2 (modS sm) (e_sub subP (e_loc (.i (.o (.o (.o (.i .e)))))) (e_lit (.int 0))) (e_lit (.int 4)))) (l_cons (e_sub subT (e_tup (l_cons (e_lit (.int 1)) (l_cons (e_lit (.int 3)) (l_cons (e_lit (.int 5)) (l_cons (e_lit (.int 7)) l_nil))))) (e_bin2 (modS sm) (e_sub subP (e_loc (.i (.o (.o (.o (.i .e)))))) (e_lit (.int 1))) (e_lit (.int 4)))) l_nil)))) (ss_cons (s_asg .e (e_call f15 (l_cons (e_lit (.int 3)) (l_cons (e_lit (.int 3)) (l_cons (e_lit (.bool false)) (l_cons (e_lit (.bool false)) l_nil)))))) (ss_cons (s_asg (.i (.o (.i .e))) (e_call f30 (l_cons (e_loc .e) (l_cons (e_loc (.o (.o (.o .e)))) (l_cons (e_bin iShl (e_lit (.int 1)) (e_loc (.o (.o (.o (.o .e)))))) l_nil))))) (ss_cons (s_asg (.i (.o (.i (.o (.o (.o .e)))))) (e_call f24 (l_cons (e_lit (.int 9)) (l_cons (e_lit (.int 0)) (l_cons (e_loc (.o (.o (.o (.o .e))))) (l_cons (e_lit (.int 0)) (l_cons (e_lit (.int 0)) l_nil))))))) (ss_cons (s_asgT [(.o (.o (.o (.o (.o (.o .e)))))), (.o (.i (.i .e)))] (e_tup (l_cons (e_slc (e_loc (.i (.o (.i .e)))) (e_so (e_loc (.i (.o (.i (.o (.o (.o .e)))))))) (e_so (e_bin iAdd (e_loc (.i (.o (.i (.o (.o (.o .e))))))) (e_lit (.int 81))))) (l_cons (e_slc (e_slc (e_loc (.i (.o (.i .e)))) (e_so (e_call f24 (l_cons (e_lit (.int 9)) (l_cons (e_lit (.int 1)) (l_cons (e_loc (.o (.o (.o (.o .e))))) (l_cons (e_lit (.int 0)) (l_cons (e_lit (.int 0)) l_nil))))))) e_no) e_no (e_so (e_lit (.int 81)))) l_nil)))) (ss_cons (s_asg (.i (.o (.i (.o .e)))) (e_comp (.i (.i (.o (.i (.o (.o .e)))))) (e_rng (l_cons (e_lit (.int 81)) l_nil)) (t_cmp cNe (e_sub subL (e_loc (.o (.i (.i .e)))) (e_loc (.i (.i (.o (.i (.o (.o .e)))))))) (e_lit (.int (-2)))) (e_loc (.i (.i (.o (.i (.o (.o .e))))))))) ss_nil))))))
def lawB (sm : Nat → Int → Option Int) : Sx := (ss_cons (s_asg (.o (.i (.o (.o .e)))) (e_sub subL (e_loc (.i (.o (.i (.o .e))))) (e_bin2 (modS sm) (e_sub subP (e_loc (.i (.o (.o (.o (.i .e)))))) (e_lit (.int 2))) (e_len (e_loc (.i (.o (.i (.o .e))))))))) (ss_cons (s_asg (.o (.i (.i (.o (.o .e))))) (e_lst (l_cons (e_tup (l_cons (e_lit (.int 0)) (l_cons (e_lit (.int 6)) (l_cons (e_loc (.o (.o (.o (.o .e))))) l_nil)))) (l_cons (e_tup (l_cons (e_lit (.int 0)) (l_cons (e_loc (.o (.o (.o .e)))) (l_cons (e_bin iDiv (e_loc (.o (.i (.o (.o .e))))) (e_lit (.int 9))) l_nil)))) (l_cons (e_tup (l_cons (e_lit (.int 1)) (l_cons (e_lit (.int 6)) (l_cons (e_bin iMod (e_loc (.o (.i (.o (.o .e))))) (e_lit (.int 9))) l_nil)))) l_nil))))) (ss_cons (s_asg (.o (.i (.o (.o (.i (.o .e)))))) (e_comp (.o (.i (.o (.i (.i (.o .e)))))) (e_tup (l_cons (e_lit (.int 4)) (l_cons (e_lit (.int 3)) (l_cons (e_lit (.int 2)) (l_cons (e_lit (.int 5)) l_nil))))) (t_tt true) (e_call f31 (l_cons (e_loc .e) (l_cons (e_lit (.int 0)) (l_cons (e_lst (l_cons (e_sub subL (e_loc (.o (.i (.i (.o (.o .e)))))) (e_lit (.int 0))) (l_cons (e_tup (l_cons (e_lit (.int 0)) (l_cons (e_loc (.o (.i (.o (.i (.i (.o .e))))))) (l_cons (e_bin iDiv (e_loc (.o (.i (.o (.o .e))))) (e_lit (.int 9))) l_nil)))) (l_cons (e_sub subL (e_loc (.o (.i (.i (.o (.o .e)))))) (e_lit (.int 2))) l_nil)))) l_nil)))))) (ss_cons (s_ite (t_cmp dNe (e_comp (.o (.o (.o (.o (.i .e))))) (e_loc (.o (.i (.o (.o (.i (.o .e))))))) (t_tt true) (e_call f7 (l_cons (e_loc (.o (.o (.o (.o (.i .e)))))) l_nil))) (e_lst (l_cons (e_lit (.bool false)) (l_cons (e_lit (.bool true)) (l_cons (e_lit (.bool true)) (l_cons (e_lit (.bool false)) l_nil)))))) (ss_cons (s_ret (e_lit (.bool false))) ss_nil) ss_nil) (ss_cons (s_asg (.o (.o (.o (.o (.i (.o .e)))))) (e_comp (.i (.o (.i (.i (.o (.o .e)))))) (e_bin2 addL (e_loc (.o (.o (.o (.o (.o (.o .e))))))) (e_loc (.o (.i (.i .e))))) (t_cmp cGe (e_loc (.i (.o (.i (.i (.o (.o .e))))))) (e_lit (.int 0))) (e_loc (.i (.o (.i (.i (.o (.o .e))))))))) (ss_cons (s_ite (t_cmp dNe (e_comp (.i (.i .e)) (e_tup (l_cons (e_lit (.int 0)) (l_cons (e_lit (.int 1)) l_nil))) (t_cmp dNe (e_call f7 (l_cons (e_call f31 (l_cons (e_loc .e) (l_cons (e_loc (.i (.i .e))) (l_cons (e_loc (.o (.i (.i (.o (.o .e)))))) l_nil)))) l_nil)) (e_cmp dEq (e_loc (.o (.o (.o (.o (.i (.o .e))))))) (e_lst l_nil))) (e_loc (.i (.i .e)))) (e_lst l_nil)) (ss_cons (s_ret (e_lit (.bool false))) ss_nil) ss_nil) (ss_cons (s_ret (e_bool false (e_cmp dEq (e_loc (.o (.o (.o (.o (.i (.o .e))))))) (e_lst l_nil)) (e_bool true (e_cmp cIn (e_lit (.int 0)) (e_loc (.o (.i (.i .e))))) (e_cmp cIn (e_lit (.int 1)) (e_loc (.o (.o (.o (.o (.o (.o .e))))))))))) ss_nil)))))))
def smT (r0 r1 r2 : Int) : Nat → Int → Option Int
  | 0, .ofNat 4 => some r0
  | 1, .ofNat 4 => some r1
  | 2, .ofNat 21 => some r2
  | _, _ => Option.none
def hp0 : Hp := ⟨.o .e, TrO.nil.set .e (.pre [.sym 0, .sym 1, .sym 2])⟩
def isT : RS → Bool
  | .ok (.ret (.bool true)) _ _ => true
  | _ => false
def allB (r0 r1 : Int) (lo : Lo) (H : Hp) : Nat → Bool
  | 0 => true
  | n + 1 => match isT (lawB (smT r0 r1 (.ofNat n)) lo H) with
    | true => allB r0 r1 lo H n
    | false => false
def check (r0 r1 : Int) (n : Nat) : Bool := match lawA (smT r0 r1 0) lo0 hp0 with
  | .ok .next lo H => allB r0 r1 lo H n
  | _ => false
end
end Mine

namespace Mine
open PySem PySem.SeqAt PySem.W

/-! lists side by side -/
inductive All2 {α β : Type} (R : α → β → Prop) : List α → List β → Prop where
  | nil : All2 R [] []
  | cons {a b l m} : R a b → All2 R l m → All2 R (a :: l) (b :: m)
namespace All2
variable {α β : Type} {R S : α → β → Prop}
theorem mono (h : ∀ a b, R a b → S a b) : ∀ {l m}, All2 R l m → All2 S l m
  | _, _, .nil => .nil
  | _, _, .cons x r => .cons (h _ _ x) (mono h r)
theorem length : ∀ {l : List α} {m : List β}, All2 R l m → m.length = l.length
  | _, _, .nil => rfl
  | _, _, .cons _ r => by simp [length r]
theorem app : ∀ {l l' : List α} {m m' : List β}, All2 R l m → All2 R l' m' → All2 R (l ++ l') (m ++ m')
  | _, _, _, _, .nil, q => q
  | _, _, _, _, .cons x r, q => .cons x (app r q)
theorem get : ∀ {l : List α} {m : List β} {i : Nat} {a : α}, All2 R l m → l[i]? = some a → ∃ b, m[i]? = some b ∧ R a b
  | _, _, i, a, .nil, e => by simp at e
  | _, _, 0, a, .cons x r, e => by simp at e; subst e; exact ⟨_, rfl, x⟩
  | _, _, i + 1, a, .cons x r, e => by simpa using get r (by simpa using e)
theorem getNone : ∀ {l : List α} {m : List β} {i : Nat}, All2 R l m → l[i]? = none → m[i]? = none
  | _, _, i, h, e => by
    have := length h
    simp at e ⊢
    omega
theorem set : ∀ {l : List α} {m : List β} {i : Nat} {a : α} {b : β}, All2 R l m → R a b → All2 R (l.set i a) (m.set i b)
  | _, _, _, _, _, .nil, _ => .nil
  | _, _, 0, _, _, .cons _ r, x => .cons x r
  | _, _, i + 1, _, _, .cons y r, x => .cons y (set r x)
theorem take : ∀ {l : List α} {m : List β} (n : Nat), All2 R l m → All2 R (l.take n) (m.take n)
  | _, _, 0, _ => by simp; exact .nil
  | _, _, n + 1, .nil => by simp; exact .nil
  | _, _, n + 1, .cons x r => .cons x (take n r)
theorem drop : ∀ {l : List α} {m : List β} (n : Nat), All2 R l m → All2 R (l.drop n) (m.drop n)
  | _, _, 0, h => h
  | _, _, n + 1, .nil => .nil
  | _, _, n + 1, .cons x r => drop n r
end All2

/-! the machine's own words for lists are the usual ones -/
theorem llen_eq {α : Type} (vs : List α) : llen vs = vs.length := by
  induction vs with
  | nil => rfl
  | cons v r ih => show Nat.succ (llen r) = _; rw [ih]; rfl
theorem lapp_eq (vs ws : List V) : lapp vs ws = vs ++ ws := by
  induction vs with
  | nil => rfl
  | cons v r ih => show v :: lapp r ws = _; rw [ih]; rfl
theorem nth_eq {α : Type} (vs : List α) : ∀ n, nth vs n = vs[n]? := by
  induction vs with
  | nil => intro n; rfl
  | cons v r ih =>
    intro n
    cases n with
    | zero => rfl
    | succ n => show nth r n = _; rw [ih]; simp
theorem lset_ok (vs : List V) (x : V) : ∀ n ws, lset vs x n = some ws → n < vs.length ∧ ws = vs.set n x := by
  induction vs with
  | nil => intro n ws h; cases h
  | cons v r ih =>
    intro n ws h
    cases n with
    | zero => cases h; simp
    | succ n =>
      obtain ⟨q, h1, h2⟩ := opt1_ok (show opt1 (lset r x n) (fun q => some (v :: q)) = some ws from h)
      obtain ⟨h3, h4⟩ := ih n q h1
      cases h2
      subst h4
      simp; omega
theorem ldrop_eq (vs : List V) : ∀ n, ldrop vs n = vs.drop n := by
  induction vs with
  | nil => intro n; simp [ldrop]
  | cons v r ih =>
    intro n
    cases n with
    | zero => rfl
    | succ n => show ldrop r n = _; rw [ih]; simp
theorem ltake_eq (vs : List V) : ∀ n, ltake vs n = vs.take n := by
  induction vs with
  | nil => intro n; simp [ltake]
  | cons v r ih =>
    intro n
    cases n with
    | zero => rfl
    | succ n => show v :: ltake r n = _; rw [ih]; simp

/-! the trees -/
def Pn.val : Pn → Nat
  | .e => 1
  | .o p => 2 * p.val
  | .i p => 2 * p.val + 1
theorem Pn.val_pos : ∀ p : Pn, 0 < p.val
  | .e => Nat.one_pos
  | .o p => by have := val_pos p; simp only [val]; omega
  | .i p => by simp only [val]; omega
theorem Pn.val_inj : ∀ {p q : Pn}, p.val = q.val → p = q
  | .e, .e, _ => rfl
  | .e, .o q, h => by have := val_pos q; simp only [val] at h; omega
  | .e, .i q, h => by have := val_pos q; simp only [val] at h; omega
  | .o p, .e, h => by have := val_pos p; simp only [val] at h; omega
  | .o p, .o q, h => by rw [val_inj (p := p) (q := q) (by simp only [val] at h; omega)]
  | .o p, .i q, h => by simp only [val] at h; omega
  | .i p, .e, h => by have := val_pos p; simp only [val] at h; omega
  | .i p, .o q, h => by simp only [val] at h; omega
  | .i p, .i q, h => by rw [val_inj (p := p) (q := q) (by simp only [val] at h; omega)]
theorem Pn.val_succ : ∀ p : Pn, p.succ.val = p.val + 1
  | .e => rfl
  | .o p => rfl
  | .i p => by
    show 2 * (Pn.succ p).val = _
    rw [val_succ p]; simp only [val]; omega

theorem TrO.lt_node (v l r) : (TrO.node v l r).lt = l := rfl
theorem TrO.rt_node (v l r) : (TrO.node v l r).rt = r := rfl
theorem TrO.get_set_self (x : O) : ∀ (p : Pn) (t : TrO), (t.set p x).get p = some x
  | .e, _ => rfl
  | .o p, t => get_set_self x p t.lt
  | .i p, t => get_set_self x p t.rt
theorem TrO.get_lt (t : TrO) (p : Pn) : t.get (.o p) = t.lt.get p := rfl
theorem TrO.get_rt (t : TrO) (p : Pn) : t.get (.i p) = t.rt.get p := rfl
theorem TrO.get_set_ne (x : O) : ∀ (p q : Pn) (t : TrO), p ≠ q → (t.set p x).get q = t.get q
  | .e, .e, _, h => absurd rfl h
  | .e, .o q, t, _ => rfl
  | .e, .i q, t, _ => rfl
  | .o p, .e, t, _ => rfl
  | .o p, .o q, t, h => get_set_ne x p q t.lt fun e => h (by rw [e])
  | .o p, .i q, t, _ => rfl
  | .i p, .e, t, _ => rfl
  | .i p, .o q, t, _ => rfl
  | .i p, .i q, t, h => get_set_ne x p q t.rt fun e => h (by rw [e])
theorem TrV.get_set_self (x : V) : ∀ (p : Pn) (t : TrV), (t.set p x).get p = some x
  | .e, _ => rfl
  | .o p, t => get_set_self x p t.lt
  | .i p, t => get_set_self x p t.rt
theorem TrV.get_set_ne (x : V) : ∀ (p q : Pn) (t : TrV), p ≠ q → (t.set p x).get q = t.get q
  | .e, .e, _, h => absurd rfl h
  | .e, .o q, t, _ => rfl
  | .e, .i q, t, _ => rfl
  | .o p, .e, t, _ => rfl
  | .o p, .o q, t, h => get_set_ne x p q t.lt fun e => h (by rw [e])
  | .o p, .i q, t, _ => rfl
  | .i p, .e, t, _ => rfl
  | .i p, .o q, t, _ => rfl
  | .i p, .i q, t, h => get_set_ne x p q t.rt fun e => h (by rw [e])
theorem TrV.get_nil : ∀ p : Pn, TrV.nil.get p = none
  | .e => rfl
  | .o p => get_nil p
  | .i p => get_nil p

theorem aget_nil : ∀ n i, aget n i .nil = none
  | 0, _ => rfl
  | n + 1, i => by
    show aget n (i / 2) (@Bool.rec (fun _ => TrV) TrV.nil TrV.nil _) = none
    cases Nat.beq (Nat.mod i 2) 0 <;> exact aget_nil n _
theorem aget_aset (x : V) : ∀ n i j t, i < 2 ^ n → j < 2 ^ n → aget n j (aset x n i t) = if i = j then some x else aget n j t
  | 0, i, j, t, hi, hj => by
    have : i = j := by simp at hi hj; omega
    rw [if_pos this]; rfl
  | n + 1, i, j, t, hi, hj => by
    have ei : i / 2 < 2 ^ n := by rw [Nat.pow_succ] at hi; omega
    have ej : j / 2 < 2 ^ n := by rw [Nat.pow_succ] at hj; omega
    have hl : ∀ (a b : TrV) (v : Option V) (k : Nat), aget (n + 1) k (.node v a b) = aget n (k / 2) (@Bool.rec (fun _ => TrV) b a (Nat.beq (Nat.mod k 2) 0)) := fun _ _ _ _ => rfl
    have hs : aset x (n + 1) i t = @Bool.rec (fun _ => TrV) (.node t.top t.lt (aset x n (i / 2) t.rt)) (.node t.top (aset x n (i / 2) t.lt) t.rt) (Nat.beq (Nat.mod i 2) 0) := rfl
    have hg : aget (n + 1) j t = aget n (j / 2) (@Bool.rec (fun _ => TrV) t.rt t.lt (Nat.beq (Nat.mod j 2) 0)) := rfl
    have bt : ∀ k, Nat.beq (Nat.mod k 2) 0 = decide (k % 2 = 0) := fun k => by
      show Nat.beq (k % 2) 0 = _
      cases h : Nat.beq (k % 2) 0 with
      | true => exact (decide_eq_true (Nat.eq_of_beq_eq_true h)).symm
      | false => exact (decide_eq_false (Nat.ne_of_beq_eq_false h)).symm
    rw [hs, hg, bt, bt]
    by_cases p : i % 2 = 0 <;> by_cases q : j % 2 = 0
    · rw [decide_eq_true p, decide_eq_true q]
      rw [hl, bt, decide_eq_true q]
      rw [aget_aset x n _ _ _ ei ej]
      by_cases h : i = j
      · rw [if_pos h, if_pos (by omega)]
      · rw [if_neg h, if_neg (by omega)]
    · rw [decide_eq_true p, decide_eq_false q]
      rw [hl, bt, decide_eq_false q, if_neg (by rintro rfl; exact q p)]
    · rw [decide_eq_false p, decide_eq_true q]
      rw [hl, bt, decide_eq_true q, if_neg (by rintro rfl; exact p q)]
    · rw [decide_eq_false p, decide_eq_false q]
      rw [hl, bt, decide_eq_false q]
      rw [aget_aset x n _ _ _ ei ej]
      by_cases h : i = j
      · rw [if_pos h, if_pos (by omega)]
      · rw [if_neg h, if_neg (by omega)]

/-! what the machine's state says of the model's -/

structure Cx where
  prog : Program
  w : World
  K : Frag
  h₀ : Heap
  mg : Str → Option Value
  σ : Nat → Int
  ca : Nat → Addr
  nm : Pn → Str → Prop
  gl : Str → V → Prop

abbrev Phi := Pn → Option Addr

inductive VR (c : Cx) (φ : Phi) : V → Value → Prop where
  | none : VR c φ .none .none
  | bool (b) : VR c φ (.bool b) (.bool b)
  | int (i t) : VR c φ (.int i) (.int i t)
  | ref {n a} : φ n = some a → VR c φ (.ref n) (.ref a)
  | ctup {l a its} : c.h₀.IsTuple a its → All2 (fun i v => ∃ t, v = Value.int i t) l its.toList → VR c φ (.ctup l) (.ref a)
  | sym (k t) : VR c φ (.sym k) (.int (c.σ k) t)

theorem VR.mono {c : Cx} {φ φ' : Phi} (h : ∀ n a, φ n = some a → φ' n = some a) {v : V} {x : Value} (r : VR c φ v x) : VR c φ' v x := by
  cases r with
  | none => exact .none
  | bool b => exact .bool b
  | int i t => exact .int i t
  | ref e => exact .ref (h _ _ e)
  | ctup a b => exact .ctup a b
  | sym k t => exact .sym k t

inductive OR (c : Cx) (φ : Phi) (h : Heap) (a : Addr) : O → Prop where
  | list {vs its n} : IsL h a its n → All2 (VR c φ) vs its.toList → OR c φ h a (.list vs)
  | arr {n d t its k} : IsL h a its k → its.size = n → n ≤ 2048 → (∀ i, i < n → ∃ v, its[i]? = some v ∧ VR c φ (agetD d t i) v) → OR c φ h a (.arr n d t)
  | tup {vs its} : h.IsTuple a its → All2 (VR c φ) vs its.toList → OR c φ h a (.tup vs)
  | dict {es f} : h.IntMap a f → h.DictLe a es.length → (∀ k v, iget es k = some v → ∃ x, f k = some x ∧ VR c φ v x) → OR c φ h a (.dict es)
  | inst {k d dx} : k < 3 → φ d = some dx → h.get? a = some (instObj (c.ca k) dx) → OR c φ h a (.inst k d)
  | ns {fs m k} : h.Ns a m → h.DictLe a k → (∀ p x v, c.nm p x → TrV.get fs p = some v → ∃ y, m x = some y ∧ VR c φ v y) → OR c φ h a (.ns k fs)
  | range {x y z t u v} : IsRange h a x y z t u v → Builtin.Range.small x y z = true → OR c φ h a (.range x y z)
  | pre {vs : List V} {its : Array Value} {n} : IsL h a its n → (∀ (i : Nat) (v : V), vs[i]? = some v → ∃ x, its[i]? = some x ∧ VR c φ v x) → OR c φ h a (.pre vs)

theorem OR.mono {c : Cx} {φ φ' : Phi} {h h' : Heap} {a : Addr} {o : O} (r : OR c φ h a o) (hφ : ∀ n a, φ n = some a → φ' n = some a) (k : ∀ x, h.get? a = some x → h'.get? a = some x) : OR c φ' h' a o := by
  cases r with
  | list e r => exact .list (k _ e) (r.mono fun _ _ => VR.mono hφ)
  | arr e s l r => exact .arr (k _ e) s l fun i hi => let ⟨v, p, q⟩ := r i hi; ⟨v, p, q.mono hφ⟩
  | tup e r => obtain ⟨o, e, q⟩ := e; exact .tup ⟨o, k _ e, q⟩ (r.mono fun _ _ => VR.mono hφ)
  | dict e l r =>
    obtain ⟨o, es, ep, e, q⟩ := id e
    refine .dict ⟨o, es, ep, k _ e, q⟩ (l.of_same e (k _ e)) fun x v hv => let ⟨y, p, q⟩ := r x v hv; ⟨y, p, q.mono hφ⟩
  | inst l e r => exact .inst l (hφ _ _ e) (k _ r)
  | ns e l r => obtain ⟨o, es, ep, e, q⟩ := id e; exact .ns ⟨o, es, ep, k _ e, q⟩ (l.of_same e (k _ e)) fun p x v hn hv => let ⟨y, a, b⟩ := r p x v hn hv; ⟨y, a, b.mono hφ⟩
  | range e q => exact .range (k _ e) q
  | pre e r => exact .pre (k _ e) fun i v hv => let ⟨y, a, b⟩ := r i v hv; ⟨y, a, b.mono hφ⟩

/-- the objects of the machine are there, each at an address of its own, outside the base -/
structure SR (c : Cx) (φ : Phi) (H : Hp) (h : Heap) : Prop where
  base : ∀ b o, c.h₀.get? b = some o → h.get? b = some o
  rel : ∀ n o, H.get n = some o → ∃ a, φ n = some a ∧ OR c φ h a o
  inj : ∀ n m a, φ n = some a → φ m = some a → n = m
  dom : ∀ n a, φ n = some a → n.val < H.next.val ∧ h.get? a ≠ none ∧ c.h₀.get? a = none

/-- what has become of the rest: all that stood outside the machine's objects (and outside X) stands -/
structure Ext (X : Addr → Prop) (φ : Phi) (h : Heap) (φ' : Phi) (h' : Heap) : Prop where
  sub : ∀ n a, φ n = some a → φ' n = some a
  new : ∀ n a, φ' n = some a → φ n = some a ∨ h.get? a = none
  live : ∀ b, h.get? b ≠ none → h'.get? b ≠ none
  keep : ∀ b o, h.get? b = some o → (∀ n, φ n ≠ some b) → ¬ X b → h'.get? b = some o

abbrev noX : Addr → Prop := fun _ => False

theorem some_ne {α : Type} {x : Option α} {y : α} (e : x = some y) : x ≠ none := by rw [e]; exact fun q => nomatch q
theorem ne_some {α : Type} {x : Option α} (e : x ≠ none) : ∃ y, x = some y := by
  cases x with
  | none => exact absurd rfl e
  | some y => exact ⟨y, rfl⟩
theorem get_size (h : Heap) : h.get? h.objs.size = none := by
  cases e : h.get? h.objs.size with
  | none => rfl
  | some o => exact absurd (Heap.lt_size e) (Nat.lt_irrefl _)
theorem OR.there {c : Cx} {φ : Phi} {h : Heap} {a : Addr} {o : O} (r : OR c φ h a o) : h.get? a ≠ none := by
  cases r with
  | list e _ => exact some_ne e
  | arr e _ _ _ => exact some_ne e
  | tup e _ => obtain ⟨o, e, _⟩ := e; exact some_ne e
  | dict e _ _ => obtain ⟨o, es, ep, e, _⟩ := e; exact some_ne e
  | inst _ _ e => exact some_ne e
  | ns e _ _ => obtain ⟨o, es, ep, e, _⟩ := e; exact some_ne e
  | range e _ => exact some_ne e
  | pre e _ => exact some_ne e

theorem Ext.refl {X : Addr → Prop} {φ : Phi} {h : Heap} : Ext X φ h φ h := ⟨fun _ _ e => e, fun _ _ e => .inl e, fun _ e => e, fun _ _ e _ _ => e⟩
theorem Ext.trans {X : Addr → Prop} {φ φ1 φ2 : Phi} {h h1 h2 : Heap} (x : Ext X φ h φ1 h1) (y : Ext X φ1 h1 φ2 h2) : Ext X φ h φ2 h2 :=
  ⟨fun n a e => y.sub n a (x.sub n a e), fun n a e => (y.new n a e).elim (fun e => x.new n a e) fun l => .inr (Classical.byContradiction fun q => x.live a q l), fun b e => y.live b (x.live b e),
    fun b o e hn hX => y.keep b o (x.keep b o e hn hX) (fun n q => (x.new n b q).elim (fun q => hn n q) fun l => by rw [l] at e; cases e) hX⟩
theorem Ext.weaken {X Y : Addr → Prop} {φ φ' : Phi} {h h' : Heap} (x : Ext X φ h φ' h') (hXY : ∀ b, X b → Y b) : Ext Y φ h φ' h' :=
  ⟨x.sub, x.new, x.live, fun b o e hn hY => x.keep b o e hn fun q => hY (hXY b q)⟩
theorem Ext.of_no {X : Addr → Prop} {φ φ' : Phi} {h h' : Heap} (x : Ext noX φ h φ' h') : Ext X φ h φ' h' := x.weaken fun _ q => q.elim

theorem live_of {h h' : Heap} (hk : ∀ b o, h.get? b = some o → h'.get? b = some o) : ∀ b, h.get? b ≠ none → h'.get? b ≠ none := fun b e => by
  obtain ⟨o, q⟩ := ne_some e
  exact some_ne (hk b o q)

/-- the heap has grown, or changed at one place outside -/
theorem Ext.but {X : Addr → Prop} {φ : Phi} {h h' : Heap} {L : Addr} (hL : X L) (hs : Heap.ExtBut L h h') (hl : h'.get? L ≠ none) : Ext X φ h φ h' :=
  ⟨fun _ _ e => e, fun _ _ e => .inl e, fun b e => by
    by_cases q : b = L
    · rw [q]; exact hl
    · obtain ⟨o, e⟩ := ne_some e; exact some_ne (hs b o q e), fun b o e _ hX => hs b o (fun q => hX (q ▸ hL)) e⟩
theorem Ext.grown {X : Addr → Prop} {φ : Phi} {h h' : Heap} (hk : ∀ b o, h.get? b = some o → h'.get? b = some o) : Ext X φ h φ h' :=
  ⟨fun _ _ e => e, fun _ _ e => .inl e, live_of hk, fun b o e _ _ => hk b o e⟩

section
variable {c : Cx} {φ φ' : Phi} {H H' : Hp} {h h' : Heap}

theorem SR.but {L : Addr} (r : SR c φ H h) (hn : ∀ n, φ n ≠ some L) (hL : c.h₀.get? L = none) (hs : Heap.ExtBut L h h') : SR c φ H h' where
  base := fun b o e => hs b o (fun q => by rw [q, hL] at e; cases e) (r.base b o e)
  rel := fun n o e => let ⟨a, p, q⟩ := r.rel n o e; ⟨a, p, q.mono (fun _ _ e => e) fun x => hs a x fun e => hn n (e ▸ p)⟩
  inj := r.inj
  dom := fun n a e => let ⟨p, q, s⟩ := r.dom n a e; ⟨p, by obtain ⟨o, q⟩ := ne_some q; exact some_ne (hs a o (fun z => hn n (z ▸ e)) q), s⟩
theorem SR.grown (r : SR c φ H h) (hk : ∀ b o, h.get? b = some o → h'.get? b = some o) : SR c φ H h' where
  base := fun b o e => hk b o (r.base b o e)
  rel := fun n o e => let ⟨a, p, q⟩ := r.rel n o e; ⟨a, p, q.mono (fun _ _ e => e) fun x => hk a x⟩
  inj := r.inj
  dom := fun n a e => let ⟨p, q, s⟩ := r.dom n a e; ⟨p, live_of hk a q, s⟩

open Classical in
noncomputable def Phi.put (φ : Phi) (n : Pn) (a : Addr) : Phi := fun m => if m = n then some a else φ m
theorem Phi.put_self {φ : Phi} {n : Pn} {a : Addr} : φ.put n a n = some a := by simp [Phi.put]
theorem Phi.put_ne {φ : Phi} {n m : Pn} {a : Addr} (h : m ≠ n) : φ.put n a m = φ m := by simp [Phi.put, h]

theorem SR.fresh (r : SR c φ H h) : φ H.next = none := by
  cases e : φ H.next with
  | none => rfl
  | some a => exact absurd (r.dom _ _ e).1 (Nat.lt_irrefl _)
theorem SR.sub (r : SR c φ H h) (a : Addr) : ∀ n b, φ n = some b → φ.put H.next a n = some b := fun n b e => by
  rw [Phi.put_ne]
  · exact e
  · rintro rfl; rw [r.fresh] at e; cases e
theorem SR.notIn (r : SR c φ H h) {a : Addr} (ha : h.get? a = none) : ∀ n, φ n ≠ some a := fun n e => (r.dom n a e).2.1 ha

/-- an object that stands in the heap becomes the machine's -/
theorem SR.adopt {a : Addr} {o : O} (r : SR c φ H h) (hn : ∀ n, φ n ≠ some a) (hb : c.h₀.get? a = none) (ho : OR c (φ.put H.next a) h a o) :
    SR c (φ.put H.next a) ⟨H.next.succ, H.tr.set H.next o⟩ h := by
  refine ⟨r.base, fun n x e => ?_, fun n m b e1 e2 => ?_, fun n b e => ?_⟩
  · by_cases q : n = H.next
    · subst q
      have : some o = some x := (TrO.get_set_self o _ _).symm.trans e
      cases this
      exact ⟨a, Phi.put_self, ho⟩
    · have e' : H.get n = some x := (TrO.get_set_ne o _ _ _ (Ne.symm q)).symm.trans e
      obtain ⟨b, p, s⟩ := r.rel n x e'
      exact ⟨b, r.sub a _ _ p, s.mono (r.sub a) fun y e => e⟩
  · by_cases q1 : n = H.next <;> by_cases q2 : m = H.next
    · rw [q1, q2]
    · rw [q1, Phi.put_self] at e1
      rw [Phi.put_ne q2] at e2
      cases e1
      exact absurd e2 (hn m)
    · rw [q2, Phi.put_self] at e2
      rw [Phi.put_ne q1] at e1
      cases e2
      exact absurd e1 (hn n)
    · rw [Phi.put_ne q1] at e1
      rw [Phi.put_ne q2] at e2
      exact r.inj n m b e1 e2
  · by_cases q : n = H.next
    · rw [q, Phi.put_self] at e
      cases e
      exact ⟨by rw [q, Pn.val_succ]; exact Nat.lt_succ_self _, ho.there, hb⟩
    · rw [Phi.put_ne q] at e
      obtain ⟨p, s, t⟩ := r.dom n b e
      exact ⟨by rw [Pn.val_succ]; omega, s, t⟩
theorem Ext.adopt {X : Addr → Prop} {n : Pn} {a : Addr} (x : Ext X φ h φ' h') (ha : h.get? a = none) (hn : φ' n = none) : Ext X φ h (φ'.put n a) h' := by
  refine ⟨fun m b e => ?_, fun m b e => ?_, x.live, x.keep⟩
  · have e' := x.sub m b e
    rw [Phi.put_ne]
    · exact e'
    · rintro rfl; rw [hn] at e'; cases e'
  · by_cases q : m = n
    · rw [q, Phi.put_self] at e
      cases e
      exact .inr ha
    · rw [Phi.put_ne q] at e
      exact x.new m b e
theorem Ext.thenBut {X : Addr → Prop} {D : Addr} {h1 : Heap} (x : Ext X φ h φ' h1) (hD : h.get? D = none) (hs : Heap.ExtBut D h1 h') : Ext X φ h φ' h' := by
  have nD : ∀ b, h.get? b ≠ none → b ≠ D := fun b e q => e (q ▸ hD)
  exact ⟨x.sub, x.new, fun b e => by obtain ⟨o, q⟩ := ne_some (x.live b e); exact some_ne (hs b o (nD b e) q), fun b o e hn hX => hs b o (nD b (some_ne e)) (x.keep b o e hn hX)⟩
theorem Ext.notIn {X : Addr → Prop} {D : Addr} (x : Ext X φ h φ' h') (hn : ∀ n, φ n ≠ some D) (hD : h.get? D ≠ none) : ∀ n, φ' n ≠ some D := fun n e =>
  (x.new n D e).elim (hn n) fun l => hD l

/-- a new object of the machine -/
theorem SR.push {x : Obj} {o : O} (r : SR c φ H h) (hf : x.isFreed = false) (ho : OR c (φ.put H.next h.objs.size) (h.push x) h.objs.size o) :
    SR c (φ.put H.next h.objs.size) ⟨H.next.succ, H.tr.set H.next o⟩ (h.push x) ∧ Ext noX φ h (φ.put H.next h.objs.size) (h.push x) := by
  have hk : ∀ b y, h.get? b = some y → (h.push x).get? b = some y := fun b y e => Heap.get?_push_of_some _ e
  refine ⟨(r.grown hk).adopt (r.notIn (get_size h)) ?_ ho, (Ext.grown hk).adopt (get_size h) r.fresh⟩
  cases e : c.h₀.get? h.objs.size with
  | none => rfl
  | some y => have := r.base _ _ e; rw [get_size] at this; cases this

/-- an object of the machine has changed -/
theorem SR.update {n : Pn} {a : Addr} {o : O} (r : SR c φ H h) (hn : φ n = some a) (hs : Heap.SameBut a h h') (ho : OR c φ h' a o) : SR c φ (H.set n o) h' ∧ Ext noX φ h φ h' := by
  obtain ⟨d1, d2, d3⟩ := r.dom n a hn
  have lv : ∀ b, h.get? b ≠ none → h'.get? b ≠ none := fun b e => by
    by_cases q : b = a
    · rw [q]; exact ho.there
    · rw [hs.2 b q]; exact e
  refine ⟨⟨fun b x e => (hs.2 b (fun q => by rw [q, d3] at e; cases e)).trans (r.base b x e), fun m x e => ?_, r.inj, fun m b e => ?_⟩, fun _ _ e => e, fun _ _ e => .inl e, lv, fun b x e q _ => (hs.2 b ?_).trans e⟩
  · by_cases q : m = n
    · subst q
      have : some o = some x := (TrO.get_set_self o _ _).symm.trans e
      cases this
      exact ⟨a, hn, ho⟩
    · have e' : H.get m = some x := (TrO.get_set_ne o _ _ _ (Ne.symm q)).symm.trans e
      obtain ⟨b, p, s⟩ := r.rel m x e'
      exact ⟨b, p, s.mono (fun _ _ e => e) fun y ey => (hs.2 b fun z => q (r.inj m n a (z ▸ p) hn)).trans ey⟩
  · obtain ⟨p, s, t⟩ := r.dom m b e
    exact ⟨p, lv b s, t⟩
  · rintro rfl
    exact q n hn
end
end Mine

namespace Mine
open PySem PySem.SeqAt PySem.W PySem.Calls PyProof.Rows

def ownX (env : Env) : Addr → Prop := fun b => b = env.locals ∨ ∃ x, env.cells.lookup x = some b

def isCl (k : Option NameKind) : Prop := k = some .cell ∨ k = some .free

/-- the frame's names, as the machine keeps them -/
structure EnvR (c : Cx) (env : Env) (φ : Phi) (lo : Lo) (h : Heap) : Prop where
  kind : env.scope.kind = .function
  glob : env.globals = mainGlobals
  bi : env.builtins = builtinsNs
  loc : ∃ m, h.Ns env.locals m ∧ ∀ p x v, c.nm p x → TrV.get lo p = some v → env.kindOf x = some .local → ∃ y, m x = some y ∧ VR c φ v y
  cel : ∀ p x v, c.nm p x → TrV.get lo p = some v → isCl (env.kindOf x) → ∃ a y, env.cells.lookup x = some a ∧ h.IsCell a (some y) ∧ VR c φ v y
  own : ∀ b, ownX env b → (∀ n, φ n ≠ some b) ∧ c.h₀.get? b = none ∧ h.get? b ≠ none
  all : ∀ x, isCl (env.kindOf x) → ∃ a v, env.cells.lookup x = some a ∧ h.IsCell a v
  inj : ∀ x y a, env.cells.lookup x = some a → env.cells.lookup y = some a → x = y
  apart : ∀ x a, env.cells.lookup x = some a → a ≠ env.locals

theorem EnvR.ext {c : Cx} {env : Env} {φ φ' : Phi} {lo : Lo} {h h' : Heap} (r : EnvR c env φ lo h) (x : Ext noX φ h φ' h') : EnvR c env φ' lo h' := by
  have st : ∀ b o, ownX env b → h.get? b = some o → h'.get? b = some o := fun b o ob e => x.keep b o e (r.own b ob).1 (fun q => q)
  refine ⟨r.kind, r.glob, r.bi, ?_, fun p y v hn hv hk => ?_, fun b ob => ?_, fun y hk => ?_, r.inj, r.apart⟩
  · obtain ⟨m, ⟨o, es, ep, e, q⟩, s⟩ := r.loc
    exact ⟨m, ⟨o, es, ep, st _ _ (.inl rfl) e, q⟩, fun p y v hn hv hk => let ⟨z, a, b⟩ := s p y v hn hv hk; ⟨z, a, b.mono x.sub⟩⟩
  · obtain ⟨a, z, e, ⟨o, ho, hd⟩, s⟩ := r.cel p y v hn hv hk
    exact ⟨a, z, e, ⟨o, st _ _ (.inr ⟨y, e⟩) ho, hd⟩, s.mono x.sub⟩
  · obtain ⟨p, q, s⟩ := r.own b ob
    exact ⟨fun n e => (x.new n b e).elim (p n) fun l => s l, q, x.live b s⟩
  · obtain ⟨a, v, e, ⟨o, ho, hd⟩⟩ := r.all y hk
    exact ⟨a, v, e, o, st _ _ (.inr ⟨y, e⟩) ho, hd⟩

structure CxOk (c : Cx) : Prop where
  K : c.K.In c.h₀
  g : c.h₀.Ns mainGlobals c.mg
  bi : ∃ mb, c.h₀.Ns builtinsNs mb ∧ mb (Str.ofString "range") = some (.type "range") ∧ mb (Str.ofString "len") = some (.builtin "len")
  rng : c.mg (Str.ofString "range") = none
  len : c.mg (Str.ofString "len") = none
  lim : c.h₀.NoLimit
  nmInj : ∀ p q x, c.nm p x → c.nm q x → p = q
  nmFun : ∀ p x y, c.nm p x → c.nm p y → x = y
  nmDbg : ∀ p x, c.nm p x → (x == Str.ofString "__debug__") = false ∧ (x == Str.ofString "__classdict__") = false
  glo : ∀ x v, c.gl x v → (x == Str.ofString "__debug__") = false ∧ ∃ y, c.mg x = some y ∧ ∀ φ, VR c φ v y
  att : ∀ k p x, k < 3 → c.nm p x → findIn c.K (.ref (c.ca k)) x = some none
  dict : ∀ k, k < 3 → hasDictIn c.K (c.ca k) = true
  ga : ∀ k, k < 3 → findIn c.K (.ref (c.ca k)) (Str.ofString "__getattribute__") = some (some (.builtin "object.__getattribute__"))
  sa : ∀ k, k < 3 → findIn c.K (.ref (c.ca k)) (Str.ofString "__setattr__") = some (some (.builtin "object.__setattr__"))
  over : ∀ k, k < 3 → plainOver c.K (c.ca k) = true
  makes : ∀ k, k < 3 → makesIn c.K (c.ca k) = true

def ScOk (sc : Scope) (env : Env) : Prop := ∀ x k, sc.names.lookup x = some k → match k with
  | .local => env.kindOf x = some .local
  | .globalImplicit => env.kindOf x = some .globalImplicit
  | .cell => isCl (env.kindOf x)
  | .free => isCl (env.kindOf x)
  | _ => True

def Rm (r : Nat) (A : Around) : Prop := A.handled = none ∧ A.depth + 4 * r < 900 ∧ A.units + 16 * r + 100 < cLine
theorem Rm.mono {r q : Nat} {A : Around} (h : Rm r A) (hq : q ≤ r) : Rm q A := ⟨h.1, by have := h.2.1; omega, by have := h.2.2; omega⟩

/-! what it is for a construct of the machine to be the program's -/
section
variable (c : Cx) (r : Nat) (sc : Scope)

def SndE (x : Ex) (e : Expr) : Prop := ∀ lo H v H', x lo H = .ok v H' → ∀ (env : Env) (A : Around) (φ : Phi) (s : Shared) (Q : Value → Shared → Prop) (E : Value → Shared → Prop),
  ScOk sc env → Rm r A → SR c φ H s.heap → EnvR c env φ lo s.heap →
  (∀ φ' h' tk y, SR c φ' H' h' → Ext noX φ s.heap φ' h' → VR c φ' v y → Q y { s with heap := h', toks := tk }) →
  wpAny (model c.prog c.w) A (eval e env) Q E s

def SndL (x : Lx) (es : List Expr) : Prop := ∀ lo H vs H', x lo H = .ok vs H' → ∀ (env : Env) (A : Around) (φ : Phi) (s : Shared) (Q : List Value → Shared → Prop) (E : Value → Shared → Prop) (pos : Pos),
  ScOk sc env → Rm r A → SR c φ H s.heap → EnvR c env φ lo s.heap →
  (∀ φ' h' tk ys, SR c φ' H' h' → Ext noX φ s.heap φ' h' → All2 (VR c φ') vs ys → Q ys { s with heap := h', toks := tk }) →
  wpAny (model c.prog c.w) A (spliced (backTo pos (starEach es env))) Q E s

def SndT (x : Tx) (e : Expr) : Prop := ∀ lo H b H', x lo H = .ok b H' → ∀ (env : Env) (A : Around) (φ : Phi) (s : Shared) (Q : Bool → Shared → Prop) (E : Value → Shared → Prop),
  ScOk sc env → Rm r A → SR c φ H s.heap → EnvR c env φ lo s.heap →
  (∀ φ' h' tk, SR c φ' H' h' → Ext noX φ s.heap φ' h' → Q b { s with heap := h', toks := tk }) →
  wpAny (model c.prog c.w) A (isTrue e env (eval e env)) Q E s

/-- a list of tests, under and | or -/
def SndTs (isAnd : Bool) (x : Tx) (es : List Expr) : Prop := ∀ lo H b H', x lo H = .ok b H' → ∀ (env : Env) (A : Around) (φ : Phi) (s : Shared) (Q : Bool → Shared → Prop) (E : Value → Shared → Prop),
  ScOk sc env → Rm r A → SR c φ H s.heap → EnvR c env φ lo s.heap →
  (∀ φ' h' tk, SR c φ' H' h' → Ext noX φ s.heap φ' h' → Q b { s with heap := h', toks := tk }) →
  wpAny (model c.prog c.w) A (allTrue (if isAnd then .And else .Or) es env) Q E s

inductive FR (φ : Phi) : Fl → Flow → Prop where
  | next : FR φ .next .next
  | cont : FR φ .cont .cont
  | ret {v y} : VR c φ v y → FR φ (.ret v) (.ret y)

def SndS (x : Sx) (st : Stmt) : Prop := ∀ lo H f lo' H', x lo H = .ok f lo' H' → ∀ (env : Env) (A : Around) (φ : Phi) (s : Shared) (Q : Flow → Shared → Prop) (E : Value → Shared → Prop),
  ScOk sc env → Rm r A → SR c φ H s.heap → EnvR c env φ lo s.heap →
  (∀ φ' h' tk g, SR c φ' H' h' → Ext (ownX env) φ s.heap φ' h' → EnvR c env φ' lo' h' → FR c φ' f g → Q g { s with heap := h', toks := tk }) →
  wpAny (model c.prog c.w) A (exec st env) Q E s

def SndSS (x : Sx) (st : List Stmt) : Prop := ∀ lo H f lo' H', x lo H = .ok f lo' H' → ∀ (env : Env) (A : Around) (φ : Phi) (s : Shared) (Q : Flow → Shared → Prop) (E : Value → Shared → Prop),
  ScOk sc env → Rm r A → SR c φ H s.heap → EnvR c env φ lo s.heap →
  (∀ φ' h' tk g, SR c φ' H' h' → Ext (ownX env) φ s.heap φ' h' → EnvR c env φ' lo' h' → FR c φ' f g → Q g { s with heap := h', toks := tk }) →
  wpAny (model c.prog c.w) A (execs st env) Q E s
end

theorem SR.size {c : Cx} {φ : Phi} {H : Hp} {h : Heap} (O : CxOk c) (r : SR c φ H h) : c.h₀.NoLimit := O.lim

/-! the constructs, one by one -/
section
variable {c : Cx} {r : Nat} {sc : Scope}

theorem snd_lit_none {p k} : SndE c r sc (e_lit .none) (.Constant .none k p) := by
  intro lo H v H' h env A φ s Q E _ _ R _ q
  cases h
  exact wpAny_Constant_none (q φ s.heap s.toks _ R .refl .none)
theorem snd_lit_bool {b p k} : SndE c r sc (e_lit (.bool b)) (.Constant (.bool b) k p) := by
  intro lo H v H' h env A φ s Q E _ _ R _ q
  cases h
  exact wpAny_Constant_bool (q φ s.heap s.toks _ R .refl (.bool b))
theorem snd_lit_int {i p k} : SndE c r sc (e_lit (.int i)) (.Constant (.int i) k p) := by
  intro lo H v H' h env A φ s Q E _ _ R _ q
  cases h
  exact wpAny_Constant_int (q φ s.heap _ _ R .refl (.int i _))

theorem loadName_R (O : CxOk c) {p : Pn} {x : Str} {v : V} {lo : Lo} {env : Env} {φ : Phi} {s : Shared} {A : Around} {Q : Value → Shared → Prop} {E : Value → Shared → Prop} (hn : c.nm p x)
    (hs : env.kindOf x = some .local ∨ isCl (env.kindOf x)) (hv : TrV.get lo p = some v) (N : EnvR c env φ lo s.heap) (q : ∀ y, VR c φ v y → Q y s) : wpAny (model c.prog c.w) A (loadName env x) Q E s := by
  rcases hs with hk | hk
  · obtain ⟨m, hm, f⟩ := N.loc
    obtain ⟨y, e, z⟩ := f p x v hn hv hk
    exact wpAny_loadName_local N.kind hk hm e (q y z)
  · obtain ⟨a, y, e, hc, z⟩ := N.cel p x v hn hv hk
    rcases hk with hk | hk
    · exact wpAny_loadName_cell N.kind hk e hc (q y z)
    · exact wpAny_loadName_free N.kind hk e hc (q y z) (O.nmDbg p x hn).2

def isVar (sc : Scope) (x : Str) : Bool := match sc.names.lookup x with
  | some .local => true
  | some .cell => true
  | some .free => true
  | _ => false
theorem isVar_env {x : Str} {env : Env} (h : isVar sc x = true) (hs : ScOk sc env) : env.kindOf x = some .local ∨ isCl (env.kindOf x) := by
  unfold isVar at h
  cases e : sc.names.lookup x with
  | none => rw [e] at h; cases h
  | some k =>
    rw [e] at h
    have z := hs x k e
    cases k <;> first | exact .inl z | exact .inr z | cases h

theorem snd_loc (O : CxOk c) {p : Pn} {x : Str} {pos} (hn : c.nm p x) (hs : isVar sc x = true) : SndE c r sc (e_loc p) (.Name x pos) := by
  intro lo H v H' h env A φ s Q E S _ R N q
  obtain ⟨w, e, h⟩ := opt_ok h
  cases h
  exact wpAny_Name (loadName_R O hn (isVar_env hs S) e N fun y z => q φ s.heap s.toks y R .refl z) (O.nmDbg p x hn).1

theorem loadGlobal_R (O : CxOk c) {x : Str} {y : Value} {lo : Lo} {H : Hp} {env : Env} {φ : Phi} {s : Shared} {A : Around} {Q : Value → Shared → Prop} {E : Value → Shared → Prop}
    (hk : env.kindOf x = some .globalImplicit) (hy : c.mg x = some y) (R : SR c φ H s.heap) (N : EnvR c env φ lo s.heap) (q : Q y s) : wpAny (model c.prog c.w) A (loadName env x) Q E s := by
  unfold loadName
  simp only [Env.blockKind, N.kind, hk, ScopeKind.isAnnotationScope, Bool.false_and, Bool.false_eq_true, if_false]
  unfold loadGlobal
  rw [N.glob]
  refine wpAny_bind (wpAny_nsGet (O.g.keeps R.base) ?_)
  rw [hy]
  exact wpAny_pure q

theorem snd_glo (O : CxOk c) {v : V} {x : Str} {pos} (hg : c.gl x v) (hs : sc.names.lookup x = some .globalImplicit) : SndE c r sc (e_lit v) (.Name x pos) := by
  intro lo H w H' h env A φ s Q E S _ R N q
  cases h
  obtain ⟨hd, y, hy, z⟩ := O.glo x v hg
  exact wpAny_Name (loadGlobal_R O (S x _ hs) hy R N (q φ s.heap s.toks y R .refl (z φ))) hd

/-- two in a row -/
theorem two_R {a b : Ex} {ea eb : Expr} (ha : SndE c r sc a ea) (hb : SndE c r sc b eb) {lo : Lo} {H H1 H2 : Hp} {x y : V} (h1 : a lo H = .ok x H1) (h2 : b lo H1 = .ok y H2)
    {env : Env} {A : Around} {φ : Phi} {s : Shared} {E : Value → Shared → Prop} {T : Value → Value → Sem α} {Q : α → Shared → Prop} (S : ScOk sc env) (hA : Rm r A) (R : SR c φ H s.heap) (N : EnvR c env φ lo s.heap)
    (q : ∀ φ' h' tk u v, SR c φ' H2 h' → Ext noX φ s.heap φ' h' → VR c φ' x u → VR c φ' y v → wpAny (model c.prog c.w) A (T u v) Q E { s with heap := h', toks := tk }) :
    wpAny (model c.prog c.w) A (eval ea env) (fun u s₁ => wpAny (model c.prog c.w) A (eval eb env) (fun v s₂ => wpAny (model c.prog c.w) A (T u v) Q E s₂) E s₁) E s := by
  refine ha lo H x H1 h1 env A φ s _ E S hA R N fun φ1 hp1 tk1 u R1 X1 z1 => ?_
  refine hb lo H1 y H2 h2 env A φ1 _ _ E S hA R1 (N.ext X1) fun φ2 hp2 tk2 v R2 X2 z2 => ?_
  exact q φ2 hp2 tk2 u v R2 (X1.trans X2) (z1.mono X2.sub) z2

def OpOk (c : Cx) (op : Operator) (f : Int → Int → Option Int) : Prop := ∀ i j z, f i j = some z → ∀ (A : Around) (s : Shared) (Q : Value → Shared → Prop) (E : Value → Shared → Prop) t u,
  (∀ t' tk, Q (.int z t') { s with toks := tk }) → wpAny (model c.prog c.w) A (binaryOp op (.int i t) (.int j u)) Q E s ∧ wpAny (model c.prog c.w) A (inplaceOp op (.int i t) (.int j u)) Q E s

theorem snd_bin {op : Operator} {f : Int → Int → Option Int} {a b : Ex} {ea eb : Expr} {pos} (hf : OpOk c op f) (ha : SndE c r sc a ea) (hb : SndE c r sc b eb) :
    SndE c r sc (e_bin f a b) (.BinOp ea op eb pos) := by
  intro lo H v H' h env A φ s Q E S hA R N q
  obtain ⟨x, H1, h1, h⟩ := bind_ok h
  obtain ⟨y, H2, h2, h⟩ := bind_ok h
  obtain ⟨i, e1, h⟩ := intR_ok h
  obtain ⟨j, e2, h⟩ := intR_ok (v := y) h
  subst e1 e2
  obtain ⟨z, hz, h⟩ := opt_ok h
  rw [forceI_eq] at h
  cases h
  refine wpAny_BinOp (two_R ha hb h1 h2 S hA R N fun φ' h' tk u w R' X' z1 z2 => ?_)
  cases z1
  cases z2
  exact (hf i j z hz A _ Q E _ _ fun t' tk' => q φ' h' tk' _ R' X' (.int z t')).1
end
end Mine

namespace Mine
open PySem PySem.SeqAt PySem.W PySem.Calls PyProof.Rows

theorem bnot_ofNat (m : Nat) : Builtin.bitNot (.ofNat m) = .negSucc m := by
  show -((m : Nat) : Int) - 1 = Int.negSucc m
  omega
theorem bnot_negSucc (m : Nat) : Builtin.bitNot (.negSucc m) = .ofNat m := by
  show -(Int.negSucc m) - 1 = ((m : Nat) : Int)
  omega
theorem band_nn (m n : Nat) : Builtin.bitAnd (.ofNat m) (.ofNat n) = .ofNat (Nat.land m n) := by
  unfold Builtin.bitAnd
  have h1 : decide ((0 : Int) ≤ Int.ofNat m) = true := decide_eq_true (by simp)
  have h2 : decide ((0 : Int) ≤ Int.ofNat n) = true := decide_eq_true (by simp)
  rw [h1, h2]
  rfl
theorem band_ss (m n : Nat) : Builtin.bitAnd (.negSucc m) (.negSucc n) = .negSucc (Nat.lor m n) := by
  unfold Builtin.bitAnd
  have h1 : decide ((0 : Int) ≤ Int.negSucc m) = false := decide_eq_false (by omega)
  have h2 : decide ((0 : Int) ≤ Int.negSucc n) = false := decide_eq_false (by omega)
  rw [h1, h2]
  dsimp only
  rw [bnot_negSucc, bnot_negSucc]
  exact bnot_ofNat _
theorem bor_nn (m n : Nat) : Builtin.bitOr (.ofNat m) (.ofNat n) = .ofNat (Nat.lor m n) := by
  unfold Builtin.bitOr
  rw [bnot_ofNat, bnot_ofNat, band_ss, bnot_negSucc]
theorem nn_eq (a b : Int) (f : Nat → Nat → Nat) (g : Int → Int → Int) (h : ∀ m n, g (.ofNat m) (.ofNat n) = .ofNat (f m n)) : nn a b f g = g a b := by
  cases a with
  | ofNat m => cases b with
    | ofNat n => exact (h m n).symm
    | negSucc n => rfl
  | negSucc m => rfl

theorem small_lt {a : Int} (h : small a = true) : a.natAbs < 1000000000 := W.Z.blt_iff.mp h
theorem sm2_lt {a b : Int} (h : sm2 a b = true) : a.natAbs < 1000000000 ∧ b.natAbs < 1000000000 := by
  unfold sm2 at h
  cases e : small a with
  | true => rw [e] at h; exact ⟨small_lt e, small_lt h⟩
  | false => rw [e] at h; cases h
theorem ne_of_not_ieq {a b : Int} (h : (!(ieq a b)) = true) : a ≠ b := by
  intro e
  rw [(ieq_iff a b).mpr e] at h
  cases h

theorem mulOk {a b : Int} (h : sm2 a b = true) : IntMulOk a b := by
  obtain ⟨h1, h2⟩ := sm2_lt h
  unfold IntMulOk
  mul_fits

section
variable {c : Cx} {r : Nat} {sc : Scope}
theorem op_add : OpOk c .Add iAdd := by
  intro i j z h A s Q E t u q
  cases h
  exact ⟨add_int (q _ _), P.iadd_int (q _ _)⟩
theorem op_sub : OpOk c .Sub iSub := by
  intro i j z h A s Q E t u q
  cases h
  exact ⟨sub_int' (q _ _), isub_int (q _ _)⟩
theorem op_mul : OpOk c .Mult iMul := by
  intro i j z h A s Q E t u q
  obtain ⟨hm, h⟩ := grdO_ok h
  cases h
  exact ⟨P.mul_int (q _ _) (mulOk hm), P.imul_int (q _ _) (mulOk hm)⟩
theorem op_div : OpOk c .FloorDiv iDiv := by
  intro i j z h A s Q E t u q
  obtain ⟨hm, h⟩ := grdO_ok h
  obtain ⟨hn, h⟩ := grdO_ok h
  cases h
  have hp : Builtin.divisionGoesByPylong i j = false := PyProof.noPylong_small (by have := small_lt hm; omega)
  exact ⟨floordiv_int (ne_of_not_ieq hn) (q _ _) (.inl hp), ifloordiv_int (ne_of_not_ieq hn) (q _ _) (.inl hp)⟩
theorem op_mod : OpOk c .Mod iMod := by
  intro i j z h A s Q E t u q
  obtain ⟨hn, h⟩ := grdO_ok h
  cases h
  exact ⟨mod_int' (ne_of_not_ieq hn) (q _ _), imod_int (ne_of_not_ieq hn) (q _ _)⟩
theorem op_and : OpOk c .BitAnd iAnd := by
  intro i j z h A s Q E t u q
  have e : nn i j Nat.land Builtin.bitAnd = Builtin.bitAnd i j := nn_eq _ _ _ _ band_nn
  cases (show some (nn i j Nat.land Builtin.bitAnd) = some z from h)
  rw [e] at q
  exact ⟨and_int (q _ _), iand_int (q _ _)⟩
theorem op_or : OpOk c .BitOr iOr := by
  intro i j z h A s Q E t u q
  have e : nn i j Nat.lor Builtin.bitOr = Builtin.bitOr i j := nn_eq _ _ _ _ bor_nn
  cases (show some (nn i j Nat.lor Builtin.bitOr) = some z from h)
  rw [e] at q
  exact ⟨or_int (q _ _), ior_int (q _ _)⟩
theorem op_xor : OpOk c .BitXor iXor := by
  intro i j z h A s Q E t u q
  cases h
  exact ⟨xor_int (q _ _), ixor_int (q _ _)⟩
theorem op_shl : OpOk c .LShift iShl := by
  intro i j z h A s Q E t u q
  obtain ⟨hm, h⟩ := grdO_ok h
  obtain ⟨n, rfl, h⟩ := nat1_ok h
  obtain ⟨hn, h⟩ := grdO_ok h
  cases h
  have h1 := W.Z.blt_iff.mp hn
  have h2 := small_lt hm
  have e : Int.mul i (.ofNat (Nat.pow 2 n)) = i * 2 ^ (Int.ofNat n).toNat := by
    show i * ((2 ^ n : Nat) : Int) = i * 2 ^ n
    rw [Int.natCast_pow]; rfl
  rw [e] at q
  have l0 : (0 : Int) ≤ Int.ofNat n := Int.natCast_nonneg n
  have l1 : Int.ofNat n ≤ 1000000 := by show (n : Int) ≤ 1000000; omega
  have l2 : i.natAbs < 2 ^ 64 := by omega
  exact ⟨lshift_int_small l0 l1 l2 (q _ _), ilshift_int_small l0 l1 l2 (q _ _)⟩
theorem op_shr : OpOk c .RShift iShr := by
  intro i j z h A s Q E t u q
  obtain ⟨n, rfl, h⟩ := nat1_ok h
  cases h
  have e : Int.fdiv i (.ofNat (Nat.pow 2 n)) = i.fdiv (2 ^ (Int.ofNat n).toNat) := by
    show i.fdiv ((2 ^ n : Nat) : Int) = i.fdiv (2 ^ n)
    rw [Int.natCast_pow]; rfl
  rw [e] at q
  have l0 : (0 : Int) ≤ Int.ofNat n := Int.natCast_nonneg n
  exact ⟨rshift_int l0 (q _ _), irshift_int l0 (q _ _)⟩
end
end Mine

namespace Mine
open PySem PySem.SeqAt PySem.W PySem.Calls PyProof.Rows

section
variable {c : Cx} {r : Nat} {sc : Scope}

theorem snd_inv {a : Ex} {e : Expr} {pos} (ha : SndE c r sc a e) : SndE c r sc (e_inv a) (.UnaryOp .Invert e pos) := by
  intro lo H v H' h env A φ s Q E S hA R N q
  obtain ⟨x, H1, h1, h⟩ := bind_ok h
  obtain ⟨i, e1, k⟩ := intR_ok h
  subst e1
  rw [forceI_eq] at k
  cases k
  refine wpAny_UnaryOp (ha lo H _ _ h1 env A φ s _ E S hA R N fun φ' h' tk y R' X' z => ?_)
  cases z
  exact invert_int (q φ' h' _ _ R' X' (.int _ _))
theorem snd_neg {a : Ex} {e : Expr} {pos} (ha : SndE c r sc a e) : SndE c r sc (e_neg a) (.UnaryOp .USub e pos) := by
  intro lo H v H' h env A φ s Q E S hA R N q
  obtain ⟨x, H1, h1, h⟩ := bind_ok h
  obtain ⟨i, e1, k⟩ := intR_ok h
  subst e1
  rw [forceI_eq] at k
  cases k
  refine wpAny_UnaryOp (ha lo H _ _ h1 env A φ s _ E S hA R N fun φ' h' tk y R' X' z => ?_)
  cases z
  exact P.neg_int (q φ' h' _ _ R' X' (.int _ _))
theorem snd_notv {a : Ex} {e : Expr} {pos} (ha : SndE c r sc a e) : SndE c r sc (e_notv a) (.UnaryOp .Not e pos) := by
  intro lo H v H' h env A φ s Q E S hA R N q
  obtain ⟨x, H1, h1, h⟩ := bind_ok h
  cases x with
  | bool b =>
    refine wpAny_UnaryOp (ha lo H _ _ h1 env A φ s _ E S hA R N fun φ' h' tk y R' X' z => ?_)
    cases z
    refine not_of (wpAny_truthy_bool ?_)
    cases b with
    | true => cases h; exact q φ' h' tk _ R' X' (.bool _)
    | false => cases h; exact q φ' h' tk _ R' X' (.bool _)
  | _ => cases h

theorem truth_R {v : V} {b : Bool} (h : truthV v = some b) {φ : Phi} {y : Value} (z : VR c φ v y) {A : Around} {s : Shared} {Q : Bool → Shared → Prop} {E : Value → Shared → Prop} (q : Q b s) :
    wpAny (model c.prog c.w) A (truthy y) Q E s := by
  cases z with
  | bool b' => cases h; exact wpAny_truthy_bool q
  | int i t =>
    cases h
    refine truthy_int ?_
    have e : (i != 0) = (!(ieq i 0)) := by
      cases hh : ieq i 0 with
      | true => rw [(ieq_iff i 0).mp hh]; rfl
      | false =>
        have : i ≠ 0 := fun e => by rw [(ieq_iff i 0).mpr e] at hh; cases hh
        simp [this]
    rw [e]; exact q
  | _ => cases h

/-- and, or: a row of values -/
def SndB (c : Cx) (r : Nat) (sc : Scope) (isAnd : Bool) (x : Ex) (es : List Expr) : Prop := ∀ lo H v H', x lo H = .ok v H' → ∀ (env : Env) (A : Around) (φ : Phi) (s : Shared) (Q : Value → Shared → Prop) (E : Value → Shared → Prop) (pos : Pos),
  ScOk sc env → Rm r A → SR c φ H s.heap → EnvR c env φ lo s.heap →
  (∀ φ' h' tk y, SR c φ' H' h' → Ext noX φ s.heap φ' h' → VR c φ' v y → Q y { s with heap := h', toks := tk }) →
  wpAny (model c.prog c.w) A (boolOp pos (if isAnd then .And else .Or) (evalEach es env)) Q E s
theorem snd_b_one {w : Bool} {a : Ex} {e : Expr} (ha : SndE c r sc a e) : SndB c r sc w a [e] := by
  intro lo H v H' h env A φ s Q E pos S hA R N q
  exact ha lo H v H' h env A φ s Q E S hA R N q
theorem snd_b_cons {w : Bool} {a b : Ex} {e e2 : Expr} {es : List Expr} (ha : SndE c r sc a e) (hb : SndB c r sc w b (e2 :: es)) : SndB c r sc w (e_bool w a b) (e :: e2 :: es) := by
  intro lo H v H' h env A φ s Q E pos S hA R N q
  obtain ⟨x, H1, h1, h⟩ := bind_ok h
  obtain ⟨t, ht, h⟩ := opt_ok h
  show wpAny _ _ (eval e env >>= fun v => _) Q E s
  refine wpAny_bind (ha lo H _ _ h1 env A φ s _ E S hA R N fun φ' h' tk y R' X' z => ?_)
  refine wpAny_bind (wpAny_standAt (wpAny_bind (wpAny_holding (truth_R ht z ?_))))
  cases w <;> cases t
  · exact hb lo H1 v H' h env A φ' _ Q E pos S hA R' (N.ext X') fun φ2 h2 tk2 y2 R2 X2 z2 => q φ2 h2 tk2 y2 R2 (X'.trans X2) z2
  · cases h; exact wpAny_pure (q φ' h' tk y R' X' z)
  · cases h; exact wpAny_pure (q φ' h' tk y R' X' z)
  · exact hb lo H1 v H' h env A φ' _ Q E pos S hA R' (N.ext X') fun φ2 h2 tk2 y2 R2 X2 z2 => q φ2 h2 tk2 y2 R2 (X'.trans X2) z2
theorem snd_bool {w : Bool} {x : Ex} {es : List Expr} {pos} (h : SndB c r sc w x es) : SndE c r sc x (.BoolOp (if w then .And else .Or) es pos) := by
  intro lo H v H' hx env A φ s Q E S hA R N q
  exact h lo H v H' hx env A φ s Q E pos S hA R N q

/-! comparisons -/
def CmpOk (c : Cx) (r : Nat) (op : CmpOp) (f : CmpF) : Prop := ∀ x y H b, f x y H = some b → ∀ (A : Around) (φ : Phi) (s : Shared) (u v : Value) (Q : Value → Shared → Prop) (E : Value → Shared → Prop),
  Rm r A → SR c φ H s.heap → VR c φ x u → VR c φ y v → (∀ tk, Q (.bool b) { s with toks := tk }) → wpAny (model c.prog c.w) A (compareOp op u v) Q E s

theorem cmp_ints {op : CmpOp} {f : Int → Int → Bool} (hf : ∀ (i j : Int) (A : Around) (s : Shared) (Q : Value → Shared → Prop) (E : Value → Shared → Prop) t u, Q (.bool (f i j)) s → wpAny (model c.prog c.w) A (compareOp op (.int i t) (.int j u)) Q E s) :
    CmpOk c r op (cmpII f) := by
  intro x y H b h A φ s u v Q E hA R z1 z2 q
  obtain ⟨i, rfl, h⟩ := asInt_ok h
  obtain ⟨j, rfl, h⟩ := asInt_ok (v := y) h
  cases h
  cases z1
  cases z2
  exact hf _ _ A s Q E _ _ (q s.toks)
theorem ieq_beq (i j : Int) : ieq i j = (i == j) := by
  cases h : ieq i j with
  | true => rw [(ieq_iff i j).mp h]; simp
  | false =>
    have : i ≠ j := fun e => by rw [(ieq_iff i j).mpr e] at h; cases h
    simp [this]
theorem ltB_dec (i j : Int) : W.Z.ltB i j = decide (i < j) := by
  cases h : W.Z.ltB i j with
  | true => exact (decide_eq_true ((W.Z.ltB_iff i j).mp h)).symm
  | false => exact (decide_eq_false fun e => by rw [(W.Z.ltB_iff i j).mpr e] at h; cases h).symm
theorem leB_dec (i j : Int) : W.Z.leB i j = decide (i ≤ j) := by
  cases h : W.Z.leB i j with
  | true => exact (decide_eq_true ((W.Z.leB_iff i j).mp h)).symm
  | false => exact (decide_eq_false fun e => by rw [(W.Z.leB_iff i j).mpr e] at h; cases h).symm
theorem cmp_eq : CmpOk c r .Eq cEq := cmp_ints fun i j A s Q E t u q => P.eq_int (by rw [← ieq_beq]; exact q)
theorem cmp_ne : CmpOk c r .NotEq cNe := cmp_ints fun i j A s Q E t u q => P.ne_int (by rw [bne, ← ieq_beq]; exact q)
theorem cmp_lt : CmpOk c r .Lt cLt := cmp_ints fun i j A s Q E t u q => P.lt_int (by rw [← ltB_dec]; exact q)
theorem cmp_le : CmpOk c r .LtE cLe := cmp_ints fun i j A s Q E t u q => P.le_int (by rw [← leB_dec]; exact q)
theorem cmp_gt : CmpOk c r .Gt cGt := cmp_ints fun i j A s Q E t u q => P.gt_int (by rw [← ltB_dec]; exact q)
theorem cmp_ge : CmpOk c r .GtE cGe := cmp_ints fun i j A s Q E t u q => P.ge_int (by rw [← leB_dec]; exact q)

theorem flat_reads {v : V} {d : PyData} (h : flat v = some d) {φ : Phi} {y : Value} (z : VR c φ v y) (hp : Heap) : Reads hp y d [] := by
  cases z with
  | none => cases h; exact .none
  | bool b => cases h; exact .bool b
  | int i t => cases h; exact .int i t
  | _ => cases h
theorem flats_reads {φ : Phi} (hp : Heap) : ∀ {vs : List V} {ds : List PyData} {ys : List Value}, flats vs = some ds → All2 (VR c φ) vs ys → ReadsAll hp ys ds []
  | [], ds, ys, h, z => by cases h; cases z; exact .nil
  | v :: r, ds, ys, h, z => by
    obtain ⟨d, h1, h⟩ := opt1_ok (show opt1 (flat v) (fun d => opt1 (flats r) fun ds => some (d :: ds)) = some ds from h)
    obtain ⟨ds', h2, h⟩ := opt1_ok h
    cases h
    cases z with
    | cons z1 z2 =>
      have := ReadsAll.cons (flat_reads h1 z1 hp) (flats_reads hp h2 z2)
      simpa using this
theorem data_reads {v : V} {H : Hp} {d : PyData} (h : dataV v H = some d) {φ : Phi} {y : Value} {hp : Heap} (R : SR c φ H hp) (z : VR c φ v y) : ∃ as, Reads hp y d as := by
  cases z with
  | none => exact ⟨_, flat_reads (c := c) (φ := φ) (v := .none) (show flat .none = some d from h) .none hp⟩
  | bool b => exact ⟨_, flat_reads (c := c) (φ := φ) (v := .bool b) (show flat (.bool b) = some d from h) (.bool b) hp⟩
  | int i t => exact ⟨_, flat_reads (c := c) (φ := φ) (v := .int i) (show flat (.int i) = some d from h) (.int i t) hp⟩
  | ref e =>
    obtain ⟨o, h1, h⟩ := opt1_ok h
    obtain ⟨vs, rfl, h⟩ := asList_ok h
    obtain ⟨ds, h2, h⟩ := opt1_ok h
    cases h
    obtain ⟨a, e', q⟩ := R.rel _ _ h1
    rw [e] at e'
    cases e'
    cases q with
    | list hl hr => exact ⟨_, Reads.list hl rfl rfl (flats_reads hp h2 hr)⟩
  | ctup a b => cases h
  | sym k t => cases h
theorem same_ok {x y : V} {H : Hp} {b : Bool} (h : sameD x y H = some b) {φ : Phi} {u v : Value} {hp : Heap} (R : SR c φ H hp) (z1 : VR c φ x u) (z2 : VR c φ y v) :
    ∃ dx dy as bs, Reads hp u dx as ∧ Reads hp v dy bs ∧ shaped dx = true ∧ shaped dy = true ∧ noMix dx dy = true ∧ b = Spec.same dx dy := by
  obtain ⟨dx, h1, h⟩ := opt1_ok h
  obtain ⟨dy, h2, h⟩ := opt1_ok h
  obtain ⟨s1, h⟩ := grdO_ok h
  obtain ⟨s2, h⟩ := grdO_ok h
  obtain ⟨s3, h⟩ := grdO_ok h
  cases h
  obtain ⟨as, r1⟩ := data_reads h1 R z1
  obtain ⟨bs, r2⟩ := data_reads h2 R z2
  exact ⟨dx, dy, as, bs, r1, r2, s1, s2, s3, rfl⟩
theorem cmp_deq : CmpOk c r .Eq dEq := by
  intro x y H b h A φ s u v Q E hA R z1 z2 q
  obtain ⟨dx, dy, as, bs, r1, r2, s1, s2, s3, rfl⟩ := same_ok h R z1 z2
  exact eq_dataH_same r1 r2 s1 s2 (by have := hA.2.2; omega) s3 (q s.toks)
theorem cmp_dne : CmpOk c r .NotEq dNe := by
  intro x y H b h A φ s u v Q E hA R z1 z2 q
  obtain ⟨b', k, e⟩ := opt1_ok h
  cases e
  obtain ⟨dx, dy, as, bs, r1, r2, s1, s2, s3, rfl⟩ := same_ok k R z1 z2
  exact ne_dataH_same r1 r2 s1 s2 (by have := hA.2.2; omega) s3 (q s.toks)

theorem intsV_are {φ : Phi} : ∀ {vs : List V} {l : List Int} {ys : List Value}, intsV vs = some l → All2 (VR c φ) vs ys → IntsAre ys l
  | [], l, ys, h, z => by cases h; cases z; exact .nil
  | v :: r, l, ys, h, z => by
    obtain ⟨i, rfl, h⟩ := asInt_ok (show v.asInt (fun i => opt1 (intsV r) fun l => some (i :: l)) = some l from h)
    obtain ⟨l', h2, h⟩ := opt1_ok h
    cases h
    cases z with
    | cons z1 z2 => cases z1; exact .cons _ _ (intsV_are h2 z2)
theorem anyI_eq (x : Int) : ∀ l : List Int, anyI x l = l.any (· == x)
  | [] => rfl
  | y :: r => by
    show bif_ (ieq y x) true (anyI x r) = _
    rw [anyI_eq x r, ieq_beq]
    cases h : (y == x) <;> simp [bif_, h]
theorem cmp_in : CmpOk c r .In cIn := by
  intro x y H b h A φ s u v Q E hA R z1 z2 q
  obtain ⟨i, rfl, h⟩ := asInt_ok h
  obtain ⟨n, rfl, h⟩ := asRef_ok (v := y) h
  obtain ⟨o, h1, h⟩ := opt1_ok h
  obtain ⟨vs, rfl, h⟩ := asList_ok h
  obtain ⟨l, h2, h⟩ := opt1_ok h
  cases h
  cases z1
  cases z2 with
  | ref e =>
    obtain ⟨a, e', w⟩ := R.rel _ _ h1
    rw [e] at e'
    cases e'
    cases w with
    | list hl hr =>
      rename_i its k
      have hl' := hl.isList
      rw [← Array.toArray_toList (xs := its)] at hl'
      refine in_list_ints hl' (intsV_are h2 hr) ?_
      rw [← anyI_eq]
      exact q s.toks

theorem snd_cmp {op : CmpOp} {f : CmpF} {a b : Ex} {ea eb : Expr} {pos} (hf : CmpOk c r op f) (ha : SndE c r sc a ea) (hb : SndE c r sc b eb) (hm : behindInMarks op eb = false) :
    SndE c r sc (e_cmp f a b) (.Compare ea [op] [eb] pos) := by
  intro lo H v H' h env A φ s Q E S hA R N q
  obtain ⟨x, H1, h1, h⟩ := bind_ok h
  obtain ⟨y, H2, h2, h⟩ := bind_ok h
  obtain ⟨t, ht, h⟩ := opt_ok h
  refine wpAny_Compare1 (two_R ha hb h1 h2 S hA R N fun φ' h' tk u w R' X' z1 z2 => ?_) hm
  refine hf x y H2 t ht A φ' _ u w Q E hA R' z1 z2 fun tk' => ?_
  cases t with
  | true => cases h; exact q φ' h' tk' _ R' X' (.bool _)
  | false => cases h; exact q φ' h' tk' _ R' X' (.bool _)

/-! items -/
def notSlice : Expr → Bool
  | .Slice .. => false
  | _ => true
theorem subscripted_plain {slice : Expr} (h : notSlice slice = true) (o i : Value) : subscripted slice false o i = operate [o, i] (getItem o i) := by
  cases slice <;> first | rfl | cases h

def SubOk (c : Cx) (f : SubF) : Prop := ∀ x y H v, f x y H = some v → ∀ (A : Around) (φ : Phi) (s : Shared) (u w : Value) (Q : Value → Shared → Prop) (E : Value → Shared → Prop),
  SR c φ H s.heap → VR c φ x u → VR c φ y w → (∀ tk z, VR c φ v z → Q z { s with toks := tk }) →
  (∃ T id, s.TypeIs u T ∧ typeLookup (.type T) (Str.ofString "__getitem__") = pure (some (.builtin id))) ∧ wpAny (model c.prog c.w) A (getItem u w) Q E s

theorem at_ok {α : Type} {vs : List α} {k : Int} {x : α} (h : at_ vs k = some x) : ∃ j : Nat, k = .ofNat j ∧ j < 100000 ∧ vs[j]? = some x := by
  obtain ⟨j, rfl, h⟩ := nat1_ok h
  obtain ⟨h1, h⟩ := grdO_ok h
  rw [nth_eq] at h
  exact ⟨j, rfl, W.Z.blt_iff.mp h1, h⟩
theorem toNat_ofNat (j : Nat) : (Int.ofNat j).toNat = j := rfl
theorem sub_L : SubOk c subL := by
  intro x y H v h A φ s u w Q E R z1 z2 q
  obtain ⟨n, rfl, h⟩ := asRef_ok h
  obtain ⟨k, rfl, h⟩ := asInt_ok (v := y) h
  obtain ⟨o, h1, h⟩ := opt1_ok h
  obtain ⟨vs, rfl, h⟩ := asList_ok h
  obtain ⟨j, rfl, hj, h⟩ := at_ok h
  cases z2
  cases z1 with
  | ref e =>
    obtain ⟨a, e', w⟩ := R.rel _ _ h1
    rw [e] at e'
    cases e'
    cases w with
    | list hl hr =>
      obtain ⟨z, hz, zr⟩ := hr.get h
      exact ⟨⟨"list", _, hl.isList.typeIs, list_getitem_lookup⟩, wpAny_getItem_list hl.isList (Int.natCast_nonneg _) (by show ((j : Nat) : Int) < _; omega) (by rw [toNat_ofNat]; simpa using hz) (q s.toks z zr)⟩
theorem sub_P : SubOk c subP := by
  intro x y H v h A φ s u w Q E R z1 z2 q
  obtain ⟨n, rfl, h⟩ := asRef_ok h
  obtain ⟨k, rfl, h⟩ := asInt_ok (v := y) h
  obtain ⟨o, h1, h⟩ := opt1_ok h
  obtain ⟨vs, rfl, h⟩ := asPre_ok h
  obtain ⟨j, rfl, hj, h⟩ := at_ok h
  cases z2
  cases z1 with
  | ref e =>
    obtain ⟨a, e', w⟩ := R.rel _ _ h1
    rw [e] at e'
    cases e'
    cases w with
    | pre hl hr =>
      obtain ⟨z, hz, zr⟩ := hr _ _ h
      exact ⟨⟨"list", _, hl.isList.typeIs, list_getitem_lookup⟩, wpAny_getItem_list hl.isList (Int.natCast_nonneg _) (by show ((j : Nat) : Int) < _; omega) (by rw [toNat_ofNat]; exact hz) (q s.toks z zr)⟩
theorem sub_A : SubOk c subA := by
  intro x y H v h A φ s u w Q E R z1 z2 q
  obtain ⟨n, rfl, h⟩ := asRef_ok h
  obtain ⟨k, rfl, h⟩ := asInt_ok (v := y) h
  obtain ⟨o, h1, h⟩ := opt1_ok h
  obtain ⟨m, d, t, rfl, h⟩ := asArr_ok h
  obtain ⟨j, rfl, h⟩ := nat1_ok h
  obtain ⟨hj, h⟩ := grdO_ok h
  have hj := W.Z.blt_iff.mp hj
  cases h
  cases z2
  cases z1 with
  | ref e =>
    obtain ⟨a, e', w⟩ := R.rel _ _ h1
    rw [e] at e'
    cases e'
    cases w with
    | arr hl hs hm hr =>
      obtain ⟨z, hz, zr⟩ := hr j hj
      exact ⟨⟨"list", _, hl.isList.typeIs, list_getitem_lookup⟩, wpAny_getItem_list hl.isList (Int.natCast_nonneg _) (by show ((j : Nat) : Int) < _; omega) (by rw [toNat_ofNat]; exact hz) (q s.toks z zr)⟩
theorem tup_item {t : Addr} {items : Array Value} {j : Nat} {x : Value} {tk : Tok} {A : Around} {s : Shared} {Q : Value → Shared → Prop} {E : Value → Shared → Prop} (ht : s.heap.IsTuple t items) (hj : j < 100000) (hx : items[j]? = some x) (q : Q x s) :
    (∃ T id, s.TypeIs (.ref t) T ∧ typeLookup (.type T) (Str.ofString "__getitem__") = pure (some (.builtin id))) ∧ wpAny (model c.prog c.w) A (getItem (.ref t) (.int (.ofNat j) tk)) Q E s := by
  have ht' : IsTup s.heap t items := ht
  have hlt : j < items.size := by
    cases hh : items[j]? with
    | none => rw [hh] at hx; cases hx
    | some y => exact (Array.getElem?_eq_some_iff.mp hh).1
  refine ⟨⟨"tuple", _, ht'.typeIs, F.slot_tuple_getitem.lookup⟩, PyProof.Rows.getItem_tuple (j := j) ht' (by show -(2 ^ 63) ≤ ((j : Nat) : Int); omega) (by show ((j : Nat) : Int) < _; omega) ?_ hx q⟩
  exact seqIndex_of (Int.natCast_nonneg _) (by show ((j : Nat) : Int) < _; omega)
theorem sub_T : SubOk c subT := by
  intro x y H v h A φ s u w Q E R z1 z2 q
  obtain ⟨n, rfl, h⟩ := asRef_ok h
  obtain ⟨k, rfl, h⟩ := asInt_ok (v := y) h
  obtain ⟨o, h1, h⟩ := opt1_ok h
  obtain ⟨vs, rfl, h⟩ := asTup_ok h
  obtain ⟨j, rfl, hj, h⟩ := at_ok h
  cases z2
  cases z1 with
  | ref e =>
    obtain ⟨a, e', w⟩ := R.rel _ _ h1
    rw [e] at e'
    cases e'
    cases w with
    | tup hl hr =>
      obtain ⟨z, hz, zr⟩ := hr.get h
      exact tup_item hl hj (by simpa using hz) (q s.toks z zr)
theorem sub_C : SubOk c subC := by
  intro x y H v h A φ s u w Q E R z1 z2 q
  obtain ⟨l, rfl, h⟩ := asCtup_ok h
  obtain ⟨k, rfl, h⟩ := asInt_ok (v := y) h
  obtain ⟨i, k1, e⟩ := opt1_ok h
  cases e
  obtain ⟨j, e2, hj, k2⟩ := at_ok k1
  subst e2
  cases z2
  cases z1 with
  | ctup ht hr =>
    obtain ⟨z, hz, t, rfl⟩ := hr.get k2
    obtain ⟨o, ho, hc, hd⟩ := ht
    exact tup_item ⟨o, R.base _ _ ho, hc, hd⟩ hj (by simpa using hz) (q s.toks _ (.int _ t))
theorem sub_D : SubOk c subD := by
  intro x y H v h A φ s u w Q E R z1 z2 q
  obtain ⟨n, rfl, h⟩ := asRef_ok h
  obtain ⟨k, rfl, h⟩ := asInt_ok (v := y) h
  obtain ⟨o, h1, h⟩ := opt1_ok h
  obtain ⟨es, rfl, h⟩ := asDict_ok h
  cases z2
  cases z1 with
  | ref e =>
    obtain ⟨a, e', w⟩ := R.rel _ _ h1
    rw [e] at e'
    cases e'
    cases w with
    | dict hl hd hr =>
      obtain ⟨z, hz, zr⟩ := hr _ _ h
      exact ⟨⟨"dict", _, hl.typeIs, slot_dict_getitem.lookup⟩, wpAny_getItem_intMap hl hz (q _ z zr)⟩

theorem snd_sub {f : SubF} {a i : Ex} {ea ei : Expr} {pos} (hf : SubOk c f) (ha : SndE c r sc a ea) (hi : SndE c r sc i ei) (hn : notSlice ei = true) : SndE c r sc (e_sub f a i) (.Subscript ea ei pos) := by
  intro lo H v H' h env A φ s Q E S hA R N q
  obtain ⟨x, H1, h1, h⟩ := bind_ok h
  obtain ⟨y, H2, h2, h⟩ := bind_ok h
  obtain ⟨t, ht, h⟩ := opt_ok h
  cases h
  refine Subscript_ (two_R ha hi h1 h2 S hA R N fun φ' h' tk u w R' X' z1 z2 => ?_)
  obtain ⟨⟨T, id, hT, hl⟩, g⟩ := hf x y _ v ht A φ' { s with heap := h', toks := tk } u w Q E R' z1 z2 fun tk' z zr => q φ' h' tk' z R' X' zr
  exact tail_any hT hl g (subscripted_plain hn u w)
end
end Mine

namespace Mine
open PySem PySem.SeqAt PySem.W PySem.Calls PyProof.Rows

section
variable {c : Cx} {r : Nat} {sc : Scope}

theorem ble_le {m n : Nat} (h : Nat.ble m n = true) : m ≤ n := W.Z.ble_iff.mp h
theorem line_size {n : Nat} (h : n ≤ 100000) : n ≤ sizeLine := by rw [sizeLine_eq]; omega

/-! items of an object -/
theorem lookIn_ns {h : Heap} {dx : Addr} {m : Str → Option Value} {x : Str} {y : Value} (hn : h.Ns dx m) (hm : m x = some y) : ∃ od, h.get? dx = some od ∧ lookIn x od = some (some y) := by
  obtain ⟨o, es, ep, ho, hd, hk, hf⟩ := hn
  refine ⟨o, ho, ?_⟩
  unfold lookIn
  rw [hd]
  dsimp only
  have := hf x
  rw [hm] at this
  unfold nsFind findBy at this
  rw [← Array.find?_toList] at this
  obtain ⟨e, he, hv⟩ := Option.map_eq_some_iff.mp this
  rw [he, ← hv]
theorem handed {φ : Phi} {v : V} {y : Value} (z : VR c φ v y) : handedIn y = true := by cases z <;> rfl

theorem attr_R (O : CxOk c) {a v : V} {f : Pn} {x : Str} {H : Hp} (h : attrV a f H = some v) (hn : c.nm f x) {φ : Phi} {u : Value} {s : Shared} {A : Around} {b : Bool} {Q : Value → Shared → Prop} {E : Value → Shared → Prop}
    (R : SR c φ H s.heap) (z : VR c φ a u) (q : ∀ tk y, VR c φ v y → Q y { s with toks := tk }) : wpAny (model c.prog c.w) A (getAttr u x b) Q E s := by
  obtain ⟨n, rfl, h⟩ := asRef_ok h
  obtain ⟨o, h1, h⟩ := opt1_ok h
  obtain ⟨k, d, rfl, h⟩ := asInst_ok h
  obtain ⟨p, h2, h⟩ := opt1_ok h
  obtain ⟨mm, fs, rfl, h⟩ := asNs_ok h
  cases z with
  | ref e =>
    obtain ⟨ad, e1, w1⟩ := R.rel _ _ h1
    rw [e] at e1
    cases e1
    cases w1 with
    | inst hk hd hi =>
      obtain ⟨ad2, e2, w2⟩ := R.rel _ _ h2
      rw [hd] at e2
      cases e2
      cases w2 with
      | ns hm hz hr =>
        obtain ⟨y, hy, zy⟩ := hr f x v hn h
        obtain ⟨od, hod, hl⟩ := lookIn_ns hm hy
        refine get_value (K := c.K) (O.K.keeps R.base) (C := c.ca k) (ox := instObj (c.ca k) _) (od := some od) ⟨hi, rfl, rfl, hod⟩ (O.ga k hk) (findObj_own (O.dict k hk) (O.att k f x hk hn) rfl hl) (handed zy) (q _ y zy)

def plainBase : Expr → Bool
  | .Call .. => false
  | _ => true
theorem base_plain {e : Expr} (h : plainBase e = true) (x : Str) (env : Env) (w : Sem Value) : attributeBase e x env w = w := by
  cases e <;> first | rfl | cases h
theorem snd_attr (O : CxOk c) {a : Ex} {f : Pn} {x : Str} {e : Expr} {pos} (hn : c.nm f x) (hp : plainBase e = true) (ha : SndE c r sc a e) : SndE c r sc (e_attr a f) (.Attribute e x pos) := by
  intro lo H v H' h env A φ s Q E S hA R N q
  obtain ⟨u, H1, h1, h⟩ := bind_ok h
  obtain ⟨t, ht, h⟩ := opt_ok h
  cases h
  exact Attribute_any_ (ha lo H _ _ h1 env A φ s _ E S hA R N fun φ' h' tk y R' X' z => attr_R O ht hn R' z fun tk' y' z' => q φ' h' tk' y' R' X' z')
    (by
      show (do
        let o ← attributeBase e x env (eval e env)
        standAt pos.atName
        let r ← holding [o] (getAttr o x true)
        letTemporaryGo e o r
        pure r) = _
      rw [base_plain hp])

/-! rows of values -/
def noStar : List Expr → Bool
  | [] => true
  | .Starred .. :: _ => false
  | _ :: r => noStar r
theorem star_cons {e : Expr} {es : List Expr} (h : noStar (e :: es) = true) (pos : Pos) (env : Env) : backTo pos (starEach (e :: es) env) = (false, eval e env) :: backTo pos (starEach es env) ∧ noStar es = true := by
  cases e <;> first | exact ⟨rfl, h⟩ | cases h
theorem star_any {es : List Expr} (h : noStar es = true) (pos : Pos) (env : Env) : (backTo pos (starEach es env)).any (·.1) = false := by
  induction es with
  | nil => rfl
  | cons e es ih =>
    obtain ⟨e1, e2⟩ := star_cons h pos env
    rw [e1, List.any_cons, ih e2]; rfl

theorem snd_l_nil : SndL c r sc l_nil [] := by
  intro lo H vs H' h env A φ s Q E pos S hA R N q
  cases h
  exact spliced_nil (q φ s.heap s.toks [] R .refl .nil)
theorem snd_l_cons {a : Ex} {b : Lx} {e : Expr} {es : List Expr} (hs : noStar (e :: es) = true) (ha : SndE c r sc a e) (hb : SndL c r sc b es) : SndL c r sc (l_cons a b) (e :: es) := by
  intro lo H vs H' h env A φ s Q E pos S hA R N q
  obtain ⟨v, H1, h1, h⟩ := bind_ok h
  obtain ⟨ws, H2, h2, h⟩ := bind_ok h
  cases h
  rw [(star_cons hs pos env).1]
  refine spliced_cons (ha lo H _ _ h1 env A φ s _ E S hA R N fun φ1 hp1 tk1 y R1 X1 z1 => ?_)
  exact hb lo H1 ws H' h2 env A φ1 _ _ E pos S hA R1 (N.ext X1) fun φ2 hp2 tk2 ys R2 X2 z2 => q φ2 hp2 tk2 (y :: ys) R2 (X1.trans X2) (.cons (z1.mono X2.sub) z2)

theorem snd_lst {ts : Lx} {es : List Expr} {pos} (h : SndL c r sc ts es) : SndE c r sc (e_lst ts) (.List es pos) := by
  intro lo H v H' hx env A φ s Q E S hA R N q
  obtain ⟨vs, H1, h1, hx⟩ := bind_ok hx
  obtain ⟨hl, hx⟩ := grd_ok hx
  cases hx
  refine List_ (h lo H vs H1 h1 env A φ s _ E pos S hA R N fun φ' h' tk ys R' X' z => wpAny_newList ?_ ?_)
  · have z' : All2 (VR c (φ'.put H1.next h'.objs.size)) vs ys.toArray.toList := z.mono fun _ _ => VR.mono (R'.sub _)
    obtain ⟨R2, X2⟩ := R'.push (x := { cls := .type "list", data := .seq ys.toArray }) (o := .list vs) rfl (.list (Heap.get?_push_size _ rfl) z')
    exact q _ _ tk _ R2 (X'.trans X2) (.ref Phi.put_self)
  · rw [z.length, ← llen_eq]; exact line_size (ble_le hl)
theorem snd_tup {ts : Lx} {es : List Expr} {k pos} (h : SndL c r sc ts es) : SndE c r sc (e_tup ts) (.Tuple es k pos) := by
  intro lo H v H' hx env A φ s Q E S hA R N q
  obtain ⟨vs, H1, h1, hx⟩ := bind_ok hx
  obtain ⟨hl, hx⟩ := grd_ok hx
  cases hx
  refine Tuple_ (h lo H vs H1 h1 env A φ s _ E pos S hA R N fun φ' h' tk ys R' X' z => wpAny_newTuple ?_ ?_)
  · have z' : All2 (VR c (φ'.put H1.next h'.objs.size)) vs ys.toArray.toList := z.mono fun _ _ => VR.mono (R'.sub _)
    obtain ⟨R2, X2⟩ := R'.push (x := { cls := .type "tuple", data := .seq ys.toArray }) (o := .tup vs) rfl (.tup ⟨_, Heap.get?_push_size _ rfl, rfl, _, rfl⟩ z')
    exact q _ _ tk _ R2 (X'.trans X2) (.ref Phi.put_self)
  · rw [z.length, ← llen_eq]; exact line_size (ble_le hl)

/-! two values' operations that are not of ints alone -/
def Op2Ok (c : Cx) (op : Operator) (f : V → V → Hp → R V) : Prop := ∀ x y H v H', f x y H = .ok v H' → ∀ (A : Around) (φ : Phi) (s : Shared) (u w : Value) (Q : Value → Shared → Prop) (E : Value → Shared → Prop),
  SR c φ H s.heap → VR c φ x u → VR c φ y w → (∀ φ' h' tk z, SR c φ' H' h' → Ext noX φ s.heap φ' h' → VR c φ' v z → Q z { s with heap := h', toks := tk }) →
  wpAny (model c.prog c.w) A (binaryOp op u w) Q E s
theorem snd_bin2 {op : Operator} {f : V → V → Hp → R V} {a b : Ex} {ea eb : Expr} {pos} (hf : Op2Ok c op f) (ha : SndE c r sc a ea) (hb : SndE c r sc b eb) : SndE c r sc (e_bin2 f a b) (.BinOp ea op eb pos) := by
  intro lo H v H' h env A φ s Q E S hA R N q
  obtain ⟨x, H1, h1, h⟩ := bind_ok h
  obtain ⟨y, H2, h2, h⟩ := bind_ok h
  refine wpAny_BinOp (two_R ha hb h1 h2 S hA R N fun φ' h' tk u w R' X' z1 z2 => ?_)
  exact hf x y H2 v H' h A φ' _ u w Q E R' z1 z2 fun φ2 hp2 tk2 z R2 X2 z3 => q φ2 hp2 tk2 z R2 (X'.trans X2) z3

theorem op_addL : Op2Ok c .Add addL := by
  intro x y H v H' h A φ s u w Q E R z1 z2 q
  obtain ⟨n, rfl, h⟩ := refR_ok h
  obtain ⟨m, rfl, h⟩ := refR_ok (v := y) h
  obtain ⟨o, h1, h⟩ := opt_ok h
  obtain ⟨vs, rfl, h⟩ := listR_ok h
  obtain ⟨p, h2, h⟩ := opt_ok h
  obtain ⟨ws, rfl, h⟩ := listR_ok h
  obtain ⟨hl, h⟩ := grd_ok h
  cases h
  cases z1 with
  | ref e1 => cases z2 with
    | ref e2 =>
      obtain ⟨a, e', w1⟩ := R.rel _ _ h1
      rw [e1] at e'
      cases e'
      obtain ⟨b, e', w2⟩ := R.rel _ _ h2
      rw [e2] at e'
      cases e'
      cases w1 with
      | list l1 r1 => cases w2 with
        | list l2 r2 =>
          rename_i its k its2 k2
          refine P.add_list l1 l2 ?_ ?_
          · have z' : All2 (VR c (φ.put H.next s.heap.objs.size)) (lapp vs ws) (its ++ its2).toList := by
              rw [lapp_eq, Array.toList_append]
              exact (r1.app r2).mono fun _ _ => VR.mono (R.sub _)
            obtain ⟨R2, X2⟩ := R.push (x := { cls := .type "list", data := .seq (its ++ its2) }) (o := .list (lapp vs ws)) rfl (.list (Heap.get?_push_size _ rfl) z')
            exact q _ _ s.toks _ R2 X2 (.ref Phi.put_self)
          · have := ble_le hl
            rw [llen_eq, llen_eq] at this
            have h1 := r1.length
            have h2 := r2.length
            rw [Array.length_toList] at h1 h2
            refine line_size ?_
            show its.size + its2.size ≤ 100000
            have t : Nat.add vs.length ws.length = vs.length + ws.length := rfl
            have t2 : line = 100000 := rfl
            omega

theorem op_modS {sm : Nat → Int → Option Int} (hs : ∀ k m z, sm k m = some z → m ≠ 0 ∧ (c.σ k).fmod m = z) : Op2Ok c .Mod (modS sm) := by
  intro x y H v H' h A φ s u w Q E R z1 z2 q
  obtain ⟨k, rfl, h⟩ := symR_ok h
  obtain ⟨m, rfl, h⟩ := intR_ok (v := y) h
  obtain ⟨z, hz, h⟩ := opt_ok h
  cases h
  cases z1
  cases z2
  obtain ⟨h0, e⟩ := hs _ _ _ hz
  refine mod_int' h0 ?_
  rw [e]
  exact q φ s.heap _ _ R .refl (.int _ _)

theorem mul_raw' {l : Addr} {items : Array Value} {k : Nat} {x : Int} {u : Tok} {A : Around} {s : Shared} {Q : Value → Shared → Prop} {E : Value → Shared → Prop} (hl : IsL s.heap l items k) (hlo : -(2 ^ 63 : Int) ≤ x) (hhi : x < 2 ^ 63) (hsz : items.size * x.toNat ≤ 2 ^ 24)
    (h : Q (.ref s.heap.objs.size) { s with heap := s.heap.push { cls := .type "list", data := .seq (List.foldl (fun x1 x2 => x1 ++ x2) #[] (List.replicate (if items.isEmpty = true then 0 else x.toNat) items)) } }) :
    wpAny (model c.prog c.w) A (binaryOp .Mult (.ref l) (.int x u)) Q E s :=
  wpAny_binaryOp_repeat_ref (T := "list") (U := "int") (by decide) ⟨_, hl, rfl⟩ (fun s' => typeIs_int s' _ u) noFill_list_mul F.fills_int_mul F.slot_int_rmul repeat_list F.slot_int_index.lookup
    (call_meets F.slot_int_rmul (typeIs_int s _ u) F.entry_int_rmul (F.args_int_rmul_2 _ _) (int___rmul___int_list x u l items k)
      ⟨hl, rfl, ⟨_, hl, rfl⟩, call_meets F.slot_list_mul ⟨_, hl, rfl⟩ F.entry_list_mul (F.args_list_mul_2 _ _)
        (AutoListH.list___mul___list_int_3 l items k x u (by simp [Builtin.List.listFitsIndex]; omega) (by omega) (by simp [Builtin.List.listTooLong, sizeLine]; omega)) ⟨hl, h⟩⟩)
theorem mul_raw {l : Addr} {items : Array Value} {k n : Nat} {u : Tok} {A : Around} {s : Shared} {Q : Value → Shared → Prop} {E : Value → Shared → Prop} (hl : IsL s.heap l items k) (hn : n ≤ 100000) (hsz : items.size * n ≤ 100000)
    (h : Q (.ref s.heap.objs.size) { s with heap := s.heap.push { cls := .type "list", data := .seq (List.foldl (fun x1 x2 => x1 ++ x2) #[] (List.replicate (if items.isEmpty = true then 0 else n) items)) } }) :
    wpAny (model c.prog c.w) A (binaryOp .Mult (.ref l) (.int (.ofNat n) u)) Q E s :=
  mul_raw' hl (by have h1 : (0 : Int) ≤ Int.ofNat n := Int.natCast_nonneg n; omega) (by show ((n : Nat) : Int) < _; omega) (by rw [toNat_ofNat]; exact Nat.le_trans hsz (by decide)) h

theorem foldl_app (items : Array Value) : ∀ (n : Nat) (acc : Array Value), (List.foldl (fun x1 x2 => x1 ++ x2) acc (List.replicate n items)).toList = acc.toList ++ (List.replicate n items.toList).flatten
  | 0, acc => by simp
  | n + 1, acc => by
    rw [List.replicate_succ, List.foldl_cons, foldl_app items n, Array.toList_append, List.replicate_succ, List.flatten_cons, List.append_assoc]
theorem repl_all2 {φ : Phi} {vs : List V} {ys : List Value} (z : All2 (VR c φ) vs ys) : ∀ n, All2 (VR c φ) (repl vs n) ((List.replicate n ys).flatten)
  | 0 => .nil
  | n + 1 => by
    show All2 _ (lapp vs (repl vs n)) _
    rw [lapp_eq, List.replicate_succ, List.flatten_cons]
    exact z.app (repl_all2 z n)
theorem empty_rep {items : Array Value} {n : Nat} : (List.replicate (if items.isEmpty = true then 0 else n) items.toList).flatten = (List.replicate n items.toList).flatten := by
  by_cases h : items.isEmpty = true
  · rw [if_pos h]
    have : items.toList = [] := by simpa using h
    rw [this]; simp
  · rw [if_neg h]

theorem op_mulL : Op2Ok c .Mult mulL := by
  intro x y H v H' h A φ s u w Q E R z1 z2 q
  obtain ⟨n, rfl, h⟩ := refR_ok h
  obtain ⟨k, rfl, h⟩ := intR_ok (v := y) h
  obtain ⟨o, h1, h⟩ := opt_ok h
  obtain ⟨vs, rfl, h⟩ := listR_ok h
  obtain ⟨m, hm, h⟩ := opt_ok h
  obtain ⟨m', rfl, hm⟩ := nat1_ok hm
  cases hm
  obtain ⟨g1, h⟩ := grd_ok h
  obtain ⟨g2, h⟩ := grd_ok h
  cases h
  cases z2
  cases z1 with
  | ref e1 =>
    obtain ⟨a, e', w1⟩ := R.rel _ _ h1
    rw [e1] at e'
    cases e'
    cases w1 with
    | list l1 r1 =>
      rename_i its kk
      have hz := ble_le g1
      rw [llen_eq] at hz
      have hlen := r1.length
      rw [Array.length_toList] at hlen
      refine mul_raw l1 (ble_le g2) (by rw [hlen]; exact hz) ?_
      have z' : All2 (VR c (φ.put H.next s.heap.objs.size)) (repl vs m) (List.foldl (fun x1 x2 => x1 ++ x2) #[] (List.replicate (if its.isEmpty = true then 0 else m) its)).toList := by
        rw [foldl_app, empty_rep]
        exact (repl_all2 r1 m).mono fun _ _ => VR.mono (R.sub _)
      obtain ⟨R2, X2⟩ := R.push (x := { cls := .type "list", data := .seq (List.foldl (fun x1 x2 => x1 ++ x2) #[] (List.replicate (if its.isEmpty = true then 0 else m) its)) }) (o := .list (repl vs m)) rfl (.list (Heap.get?_push_size _ rfl) z')
      exact q _ _ s.toks _ R2 X2 (.ref Phi.put_self)

theorem op_mulA : Op2Ok c .Mult mulA := by
  intro x y H v H' h A φ s u w Q E R z1 z2 q
  obtain ⟨n, rfl, h⟩ := refR_ok h
  obtain ⟨k, rfl, h⟩ := intR_ok (v := y) h
  obtain ⟨o, h1, h⟩ := opt_ok h
  obtain ⟨vs, rfl, h⟩ := listR_ok h
  obtain ⟨m, hm, h⟩ := opt_ok h
  obtain ⟨m', rfl, hm⟩ := nat1_ok hm
  cases hm
  obtain ⟨g1, h⟩ := grd_ok h
  obtain ⟨g2, h⟩ := grd_ok h
  have g2 := ble_le g2
  rcases vs with _ | ⟨d, _ | ⟨_, _⟩⟩
  · cases h
  · cases h
    cases z2
    cases z1 with
    | ref e1 =>
      obtain ⟨a, e', w1⟩ := R.rel _ _ h1
      rw [e1] at e'
      cases e'
      cases w1 with
      | list l1 r1 =>
        rename_i its kk
        obtain ⟨d', hits⟩ : ∃ d', its.toList = [d'] := by
          have := r1.length
          match hh : its.toList with
          | [] => rw [hh] at this; cases this
          | [d'] => exact ⟨d', rfl⟩
          | _ :: _ :: _ => rw [hh] at this; simp at this
        rw [hits] at r1
        cases r1 with
        | cons zd _ =>
          have hsz : its.size = 1 := by rw [← Array.length_toList, hits]; rfl
          refine mul_raw l1 (by omega) (by rw [hsz]; omega) ?_
          generalize hW : List.foldl (fun x1 x2 => x1 ++ x2) #[] (List.replicate (if its.isEmpty = true then 0 else m) its) = W
          have hWl : W.toList = List.replicate m d' := by
            rw [← hW, foldl_app, empty_rep, hits]
            simp
          have hWs : W.size = m := by rw [← Array.length_toList, hWl]; simp
          obtain ⟨R2, X2⟩ := R.push (x := { cls := .type "list", data := .seq W }) (o := .arr m d .nil) rfl (.arr (Heap.get?_push_size _ rfl) hWs (by omega) fun i hi => ⟨d', by
            rw [← Array.getElem?_toList, hWl]; simp [hi], by
            unfold agetD
            rw [aget_nil]
            exact zd.mono (R.sub _)⟩)
          exact q _ _ s.toks _ R2 X2 (.ref Phi.put_self)
  · cases h
end
end Mine

namespace Mine
open PySem PySem.SeqAt PySem.W PySem.Calls PyProof.Rows

section
variable {c : Cx} {r : Nat} {sc : Scope} {φ φ' : Phi} {H H' : Hp} {h h' h1 : Heap}

/-! slices -/
inductive PR (c : Cx) (φ : Phi) : Option V → Value → Prop where
  | none : PR c φ Option.none .none
  | some {v y} : VR c φ v y → PR c φ (some v) y
def SndP (c : Cx) (r : Nat) (sc : Scope) (x : Lo → Hp → R (Option V)) (o : Option Expr) : Prop := ∀ lo H v H', x lo H = .ok v H' → ∀ (env : Env) (A : Around) (φ : Phi) (s : Shared) (Q : Value → Shared → Prop) (E : Value → Shared → Prop),
  ScOk sc env → Rm r A → SR c φ H s.heap → EnvR c env φ lo s.heap →
  (∀ φ' h' tk y, SR c φ' H' h' → Ext noX φ s.heap φ' h' → PR c φ' v y → Q y { s with heap := h', toks := tk }) →
  wpAny (model c.prog c.w) A (evalPart o env) Q E s
theorem snd_p_no : SndP c r sc e_no none := by
  intro lo H v H' h env A φ s Q E S hA R N q
  cases h
  rw [evalPart_none]
  exact wpAny_pure (q φ s.heap s.toks _ R .refl .none)
theorem snd_p_so {a : Ex} {e : Expr} (ha : SndE c r sc a e) : SndP c r sc (e_so a) (some e) := by
  intro lo H v H' h env A φ s Q E S hA R N q
  obtain ⟨x, H1, h1, h⟩ := bind_ok h
  cases h
  rw [evalPart_some]
  exact ha lo H x _ h1 env A φ s Q E S hA R N fun φ' h' tk y R' X' z => q φ' h' tk y R' X' (.some z)

theorem slcN_ok {x : Option V} {l : Option Nat} (h : slcN x = some l) {y : Value} (z : PR c φ x y) : IsPart y (l.map Int.ofNat) := by
  cases z with
  | none => cases h; exact .none
  | some z =>
    obtain ⟨i, e1, k⟩ := asInt_ok h
    subst e1
    obtain ⟨n, e2, k2⟩ := nat1_ok k
    subst e2
    obtain ⟨g, k3⟩ := grdO_ok k2
    cases k3
    cases z
    exact .int _ _
theorem pick_eq (items : Array Value) (l h : Option Nat) (h1 : h.getD items.size ≤ items.size) (h2 : l.getD 0 ≤ h.getD items.size) :
    (slicePick items (l.map Int.ofNat) (h.map Int.ofNat) none).toList = (items.toList.take (h.getD items.size)).drop (l.getD 0) := by
  cases l with
  | none => cases h with
    | none =>
      show (slicePick items none none none).toList = _
      rw [slicePick_all]
      simp only [Option.getD_none, List.drop_zero]
      rw [List.take_of_length_le (by simp)]
    | some b =>
      simp only [Option.getD_none, Option.getD_some] at h1 h2 ⊢
      show (slicePick items none (some (b : Int)) none).toList = _
      rw [slicePick_upto _ _ h1]; simp
  | some a => cases h with
    | none =>
      simp only [Option.getD_none, Option.getD_some] at h1 h2 ⊢
      show (slicePick items (some (a : Int)) none none).toList = _
      rw [slicePick_from _ _ h2]
      rw [List.take_of_length_le (by simp)]
    | some b =>
      simp only [Option.getD_some] at h1 h2 ⊢
      show (slicePick items (some (a : Int)) (some (b : Int)) none).toList = _
      rw [slicePick_run _ _ _ h1 h2]
      rw [List.drop_take]
theorem All2.ofGet {α β : Type} {Rl : α → β → Prop} : ∀ {l : List α} {m : List β}, m.length = l.length → (∀ (i : Nat) (a : α) (b : β), l[i]? = some a → m[i]? = some b → Rl a b) → All2 Rl l m
  | [], [], _, _ => .nil
  | [], _ :: _, h, _ => by cases h
  | _ :: _, [], h, _ => by cases h
  | a :: l, b :: m, h, q => .cons (q 0 a b rfl rfl) (All2.ofGet (by simpa using h) fun i x y e1 e2 => q (i + 1) x y (by simpa using e1) (by simpa using e2))
theorem aslc_succ (d : V) (t : TrV) (n i : Nat) : aslc d t (n + 1) i = agetD d t i :: aslc d t n (i + 1) := by
  show forceN i (fun i => agetD d t i :: aslc d t n (Nat.succ i)) = _
  rw [forceN_eq]
theorem aslc_len (d : V) (t : TrV) : ∀ n i, (aslc d t n i).length = n
  | 0, _ => rfl
  | n + 1, i => by rw [aslc_succ, List.length_cons, aslc_len d t n]
theorem aslc_get (d : V) (t : TrV) : ∀ (n i j : Nat) (v : V), (aslc d t n i)[j]? = some v → j < n ∧ v = agetD d t (i + j)
  | 0, i, j, _, h => by
    have e : aslc d t 0 i = [] := rfl
    rw [e] at h
    simp at h
  | n + 1, i, 0, v, h => by rw [aslc_succ] at h; simp at h; exact ⟨Nat.succ_pos _, h.symm⟩
  | n + 1, i, j + 1, v, h => by
    rw [aslc_succ] at h
    simp at h
    obtain ⟨h1, h2⟩ := aslc_get d t n (i + 1) j v h
    exact ⟨Nat.succ_lt_succ h1, by rw [h2, Nat.add_assoc, Nat.add_comm 1]⟩

theorem slc_R {x v : V} {y z : Option V} (hx : slcV x y z H = .ok v H') {A : Around} {s : Shared} {Q : Value → Shared → Prop} {E : Value → Shared → Prop} {u l w : Value} {value : Expr} {lower upper : Option Expr} {p : Pos}
    (R : SR c φ H s.heap) (zx : VR c φ x u) (zy : PR c φ y l) (zz : PR c φ z w) (q : ∀ φ' h' tk y, SR c φ' H' h' → Ext noX φ s.heap φ' h' → VR c φ' v y → Q y { s with heap := h', toks := tk }) :
    wpAny (model c.prog c.w) A (subscriptTail value (.Slice lower upper none p) u (.ref s.heap.objs.size)) Q E { s with heap := s.heap.push { cls := .type "slice", data := .fields #[l, w, .none] } } := by
  obtain ⟨n, e1, k⟩ := refR_ok hx
  subst e1
  obtain ⟨o, g1, k⟩ := opt_ok k
  obtain ⟨lo, g2, k⟩ := opt_ok k
  obtain ⟨hi, g3, k⟩ := opt_ok k
  have p1 := slcN_ok g2 zy
  have p2 := slcN_ok g3 zz
  have R1 : SR c φ H (s.heap.push { cls := .type "slice", data := .fields #[l, w, .none] }) := R.grown fun _ _ e => Heap.get?_push_of_some _ e
  have X1 : Ext noX φ s.heap φ (s.heap.push { cls := .type "slice", data := .fields #[l, w, .none] }) := .grown fun _ _ e => Heap.get?_push_of_some _ e
  cases zx with
  | @ref n0 a e =>
    obtain ⟨a2, e', w1⟩ := R.rel _ _ g1
    rw [e] at e'
    cases e'
    have fin : ∀ (its : Array Value) (ws : List V), s.heap.IsList a its → its.size ≤ 100000 → hi.getD its.size ≤ its.size → lo.getD 0 ≤ hi.getD its.size → All2 (VR c φ) ws ((its.toList.take (hi.getD its.size)).drop (lo.getD 0)) →
        (H.alloc (.list ws) = .ok v H') → wpAny (model c.prog c.w) A (subscriptTail value (.Slice lower upper none p) (.ref a) (.ref s.heap.objs.size)) Q E { s with heap := s.heap.push { cls := .type "slice", data := .fields #[l, w, .none] } } := by
      intro its ws hl hz b1 b2 z' e'
      cases e'
      have hl' : (s.heap.push { cls := .type "slice", data := .fields #[l, w, .none] }).IsList a its := hl.push _
      refine tail_any (T := "list") (ops := [.ref s.heap.objs.size, .ref a]) (Heap.IsList.typeIs (s := { s with heap := s.heap.push { cls := .type "slice", data := .fields #[l, w, .none] } }) hl') list_getitem_lookup
        (wpAny_getItem_list_slice hl' (Heap.IsSliceOf.new ..) p1 p2 .none (by simp) ?_ (line_size hz)) rfl
      dsimp only
      rw [← pick_eq its lo hi b1 b2] at z'
      have z2 := z'.mono (S := VR c (φ.put H.next (s.heap.push { cls := .type "slice", data := .fields #[l, w, .none] }).objs.size)) fun _ _ => VR.mono (R1.sub _)
      obtain ⟨R2, X2⟩ := R1.push (x := { cls := .type "list", data := .seq (slicePick its (lo.map Int.ofNat) (hi.map Int.ofNat) none) }) (o := .list ws) rfl (.list (Heap.get?_push_size _ rfl) z2)
      exact q _ _ s.toks _ R2 (X1.trans X2) (.ref Phi.put_self)
    cases w1 with
    | @list vs its kk hl hr =>
      obtain ⟨b0, k⟩ := grd_ok k
      obtain ⟨b1, k⟩ := grd_ok k
      obtain ⟨b2, k⟩ := grd_ok k
      have b0 := ble_le b0
      have b1 := ble_le b1
      have b2 := ble_le b2
      have hlen := hr.length
      rw [Array.length_toList] at hlen
      rw [llen_eq, ← hlen] at b0 b1 b2
      refine fin its _ hl.isList b0 b1 b2 ?_ k
      rw [ldrop_eq, ltake_eq, llen_eq, ← hlen]
      exact (hr.take _).drop _
    | @arr m d t its kk hl hs hm hr =>
      obtain ⟨b1, k⟩ := grd_ok k
      obtain ⟨b2, k⟩ := grd_ok k
      have b1 := ble_le b1
      have b2 := ble_le b2
      subst hs
      refine fin its _ hl.isList (by omega) b1 b2 ?_ k
      refine All2.ofGet ?_ fun i a b e1 e2 => ?_
      · rw [aslc_len, List.length_drop, List.length_take, Array.length_toList, Nat.min_eq_left b1]; rfl
      · obtain ⟨g1, g2⟩ := aslc_get _ _ _ _ _ _ e1
        have g1 : i < hi.getD its.size - lo.getD 0 := g1
        subst g2
        rw [List.getElem?_drop, List.getElem?_take] at e2
        split at e2
        · obtain ⟨x, hx1, hx2⟩ := hr (lo.getD 0 + i) (by omega)
          rw [Array.getElem?_toList, hx1] at e2
          cases e2
          exact hx2
        · cases e2
    | _ => cases k

theorem snd_slc {a : Ex} {l hh : Lo → Hp → R (Option V)} {e : Expr} {lower upper : Option Expr} {p pos} (ha : SndE c r sc a e) (hl : SndP c r sc l lower) (hu : SndP c r sc hh upper) :
    SndE c r sc (e_slc a l hh) (.Subscript e (.Slice lower upper none p) pos) := by
  intro lo H v H' h env A φ s Q E S hA R N q
  obtain ⟨x, H1, h1, h⟩ := bind_ok h
  obtain ⟨y, H2, h2, h⟩ := bind_ok h
  obtain ⟨z, H3, h3, h⟩ := bind_ok h
  refine Subscript_ (ha lo H x H1 h1 env A φ s _ E S hA R N fun φ1 hp1 tk1 u R1 X1 z1 => ?_)
  refine wpAny_Slice (hl lo H1 y H2 h2 env A φ1 _ _ E S hA R1 (N.ext X1) fun φ2 hp2 tk2 w R2 X2 z2 => ?_)
  refine hu lo H2 z H3 h3 env A φ2 _ _ E S hA R2 (N.ext (X1.trans X2)) fun φ3 hp3 tk3 w3 R3 X3 z3 => ?_
  rw [evalPart_none]
  refine wpAny_pure ?_
  have z2' : PR c φ3 y w := by cases z2 with | none => exact .none | some q => exact .some (q.mono X3.sub)
  exact slc_R (s := { s with heap := hp3, toks := tk3 }) h R3 ((z1.mono X2.sub).mono X3.sub) z2' z3 fun φ' h' tk y' R' X' zr => q φ' h' tk y' R' (((X1.trans X2).trans X3).trans X') zr
end
end Mine

namespace Mine
open PySem PySem.SeqAt PySem.W PySem.Calls PyProof.Rows

section
variable {c : Cx} {r : Nat} {sc : Scope} {φ φ' : Phi} {H H' : Hp} {h h' h1 : Heap}

/-! a name is bound -/
def isStore (sc : Scope) (x : Str) : Bool := match sc.names.lookup x with
  | some .local => true
  | some .cell => true
  | _ => false
theorem isStore_env {x : Str} {env : Env} (h : isStore sc x = true) (hs : ScOk sc env) : env.kindOf x = some .local ∨ isCl (env.kindOf x) := by
  unfold isStore at h
  cases e : sc.names.lookup x with
  | none => rw [e] at h; cases h
  | some k =>
    rw [e] at h
    have z := hs x k e
    cases k <;> first | exact .inl z | exact .inr z | cases h

theorem not_cl_local {k : Option NameKind} (h : k = some .local) (h2 : isCl k) : False := by
  subst h
  rcases h2 with h | h <;> cases h

theorem store_R (O : CxOk c) {p : Pn} {x : Str} {v : V} {y : Value} {lo : Lo} {env : Env} {s : Shared} {A : Around} {Q : Unit → Shared → Prop} {E : Value → Shared → Prop} (hn : c.nm p x)
    (hs : env.kindOf x = some .local ∨ isCl (env.kindOf x)) (R : SR c φ H s.heap) (N : EnvR c env φ lo s.heap) (z : VR c φ v y)
    (q : ∀ h' tk, SR c φ H h' → Ext (ownX env) φ s.heap φ h' → EnvR c env φ (TrV.set lo p v) h' → Q () { s with heap := h', toks := tk }) : wpAny (model c.prog c.w) A (storeName env x y) Q E s := by
  have same : ∀ {q' : Pn} {x' : Str}, c.nm q' x' → (q' = p ↔ x' = x) := fun {q' x'} hq => ⟨fun e => by subst e; exact O.nmFun _ _ _ hq hn, fun e => by subst e; exact O.nmInj _ _ _ hq hn⟩
  rcases hs with hk | hk
  · obtain ⟨m, hm, f⟩ := N.loc
    obtain ⟨o1, o2, o3⟩ := N.own env.locals (.inl rfl)
    refine wpAny_storeName_local hk hm (fun h' hn' hs' => ?_) (by rw [N.kind]; rfl)
    have lv : h'.get? env.locals ≠ none := by obtain ⟨o, es, ep, e, _⟩ := hn'; exact some_ne e
    refine q h' _ (R.but o1 o2 hs'.extBut) (.but (.inl rfl) hs'.extBut lv) ⟨N.kind, N.glob, N.bi, ⟨_, hn', fun q' x' v' hq hv hl => ?_⟩, fun q' x' v' hq hv hl => ?_, fun b ob => ?_, fun x' hl => ?_, N.inj, N.apart⟩
    · by_cases e : x' = x
      · have e2 := (same hq).mpr e
        subst e2
        rw [TrV.get_set_self] at hv
        cases hv
        exact ⟨y, if_pos e, z⟩
      · rw [TrV.get_set_ne _ _ _ _ fun e2 => e ((same hq).mp e2.symm)] at hv
        obtain ⟨w, a, b⟩ := f q' x' v' hq hv hl
        exact ⟨w, by rw [if_neg e]; exact a, b⟩
    · have e : x' ≠ x := fun e => by subst e; exact not_cl_local hk hl
      rw [TrV.get_set_ne _ _ _ _ fun e2 => e ((same hq).mp e2.symm)] at hv
      obtain ⟨a, w, e1, e2, e3⟩ := N.cel q' x' v' hq hv hl
      exact ⟨a, w, e1, e2.sameBut hs' (N.apart x' a e1), e3⟩
    · obtain ⟨a1, a2, a3⟩ := N.own b ob
      refine ⟨a1, a2, ?_⟩
      by_cases e : b = env.locals
      · rw [e]; exact lv
      · rw [hs'.2 b e]; exact a3
    · obtain ⟨a, w, e1, e2⟩ := N.all x' hl
      exact ⟨a, w, e1, e2.sameBut hs' (N.apart x' a e1)⟩
  · obtain ⟨a, v₀, hc, hv⟩ := N.all x hk
    obtain ⟨o1, o2, o3⟩ := N.own a (.inr ⟨x, hc⟩)
    have fin : ∀ h', h'.IsCell a (some y) → Heap.SameBut a s.heap h' → Q () { s with heap := h' } := fun h' hc' hs' => by
      have lv : h'.get? a ≠ none := by obtain ⟨o, e, _⟩ := hc'; exact some_ne e
      refine q h' s.toks (R.but o1 o2 hs'.extBut) (.but (.inr ⟨x, hc⟩) hs'.extBut lv) ⟨N.kind, N.glob, N.bi, ?_, fun q' x' v' hq hv hl => ?_, fun b ob => ?_, fun x' hl => ?_, N.inj, N.apart⟩
      · obtain ⟨m, hm, f⟩ := N.loc
        refine ⟨m, hm.sameBut hs' (Ne.symm (N.apart x a hc)), fun q' x' v' hq hv hl => ?_⟩
        have e : x' ≠ x := fun e => by subst e; exact not_cl_local hl hk
        rw [TrV.get_set_ne _ _ _ _ fun e2 => e ((same hq).mp e2.symm)] at hv
        exact f q' x' v' hq hv hl
      · by_cases e : x' = x
        · have e2 := (same hq).mpr e
          subst e2
          rw [TrV.get_set_self] at hv
          cases hv
          subst e
          exact ⟨a, y, hc, hc', z⟩
        · rw [TrV.get_set_ne _ _ _ _ fun e2 => e ((same hq).mp e2.symm)] at hv
          obtain ⟨a', w, e1, e2, e3⟩ := N.cel q' x' v' hq hv hl
          exact ⟨a', w, e1, e2.sameBut hs' fun e4 => e (N.inj x' x a (e4 ▸ e1) hc), e3⟩
      · obtain ⟨a1, a2, a3⟩ := N.own b ob
        refine ⟨a1, a2, ?_⟩
        by_cases e : b = a
        · rw [e]; exact lv
        · rw [hs'.2 b e]; exact a3
      · by_cases e : x' = x
        · subst e; exact ⟨a, _, hc, hc'⟩
        · obtain ⟨a', w, e1, e2⟩ := N.all x' hl
          exact ⟨a', w, e1, e2.sameBut hs' fun e4 => e (N.inj x' x a (e4 ▸ e1) hc)⟩
    rcases hk with hk | hk
    · exact wpAny_storeName_cell N.kind hk hc hv fin
    · unfold storeName
      simp only [hk, N.kind]
      exact wpAny_bind (wpAny_cellOf hc (wpAny_cellSet hv fin))

theorem EnvR.grown {env : Env} {lo : Lo} (r : EnvR c env φ lo h) (hk : ∀ b o, h.get? b = some o → h'.get? b = some o) : EnvR c env φ lo h' := r.ext (.grown hk)

/-- the row of names of a tuple that is assigned to -/
inductive Tgs (c : Cx) (sc : Scope) : List Pn → List Expr → Prop where
  | nil : Tgs c sc [] []
  | cons {p ps x pos ts} : c.nm p x → isStore sc x = true → Tgs c sc ps ts → Tgs c sc (p :: ps) (.Name x pos :: ts)
theorem Tgs.len {ps : List Pn} {ts : List Expr} (t : Tgs c sc ps ts) (env : Env) : (assignEach ts env).length = ps.length ∧ (assignEach ts env).findIdx? (·.1) = none := by
  induction t with
  | nil => exact ⟨rfl, rfl⟩
  | @cons p ps x pos ts _ _ _ ih =>
    have e : assignEach (.Name x pos :: ts) env = (false, assign (.Name x pos) env) :: assignEach ts env := rfl
    rw [e]
    refine ⟨by rw [List.length_cons, ih.1]; rfl, ?_⟩
    rw [List.findIdx?_cons]
    simp [ih.2]
theorem asgN_len : ∀ {ps : List Pn} {vs : List V} {lo lo' : Lo}, asgN ps vs lo = some lo' → vs.length = ps.length
  | [], [], _, _, _ => rfl
  | [], _ :: _, _, _, h => by cases h
  | _ :: _, [], _, _, h => by cases h
  | p :: ps, v :: vs, lo, lo', h => by
    have := asgN_len (ps := ps) (vs := vs) (lo := TrV.set lo p v) (lo' := lo') h
    simp [this]
theorem bindN_R (O : CxOk c) {env : Env} (S : ScOk sc env) {A : Around} {E : Value → Shared → Prop} : ∀ {ps : List Pn} {ts : List Expr} (_ : Tgs c sc ps ts) {vs : List V} {ys : List Value} {lo lo' : Lo} {s : Shared} {Q : Unit → Shared → Prop} (_ : asgN ps vs lo = some lo') (R : SR c φ H s.heap) (N : EnvR c env φ lo s.heap)
    (z : All2 (VR c φ) vs ys) (q : ∀ h' tk, SR c φ H h' → Ext (ownX env) φ s.heap φ h' → EnvR c env φ lo' h' → Q () { s with heap := h', toks := tk }), wpAny (model c.prog c.w) A (assignInOrder ((assignEach ts env).map (·.2)) ys) Q E s
  | [], [], .nil, vs, ys, lo, lo', s, Q, h, R, N, z, q => by
    have := asgN_len h
    cases vs with
    | cons => cases this
    | nil =>
      cases z
      cases h
      exact wpAny_assignInOrder_none (q s.heap s.toks R .refl N)
  | p :: ps, _ :: ts, .cons hn hs t, vs, ys, lo, lo', s, Q, h, R, N, z, q => by
    cases vs with
    | nil => cases h
    | cons v vs =>
      cases z with
      | cons z1 z2 =>
        refine wpAny_assignInOrder_more (wpAny_assign_Name (store_R O hn (isStore_env hs S) R N z1 fun h1 tk1 R1 X1 N1 => ?_))
        exact bindN_R O S t (lo := TrV.set lo p v) (s := { s with heap := h1, toks := tk1 }) h R1 N1 z2 fun h2 tk2 R2 X2 N2 => q h2 tk2 R2 (X1.trans X2) N2

inductive TgOk (c : Cx) (sc : Scope) : Tg → Expr → Prop where
  | one {p x pos} : c.nm p x → isStore sc x = true → TgOk c sc (.one p) (.Name x pos)
  | many {ps ts k pos} : Tgs c sc ps ts → TgOk c sc (.many ps) (.Tuple ts k pos)

theorem assign_R (O : CxOk c) {env : Env} (S : ScOk sc env) {A : Around} (hA : Rm r A) {E : Value → Shared → Prop} {tg : Tg} {t : Expr} (ht : TgOk c sc tg t) {v : V} {y : Value} {lo lo' : Lo} {s : Shared} {Q : Unit → Shared → Prop} (hb : bindT tg v lo H = some lo')
    (R : SR c φ H s.heap) (N : EnvR c env φ lo s.heap) (z : VR c φ v y) (q : ∀ h' tk, SR c φ H h' → Ext (ownX env) φ s.heap φ h' → EnvR c env φ lo' h' → Q () { s with heap := h', toks := tk }) :
    wpAny (model c.prog c.w) A (assign t env y) Q E s := by
  cases ht with
  | one hn hs =>
    cases hb
    exact wpAny_assign_Name (store_R O hn (isStore_env hs S) R N z q)
  | many t =>
    obtain ⟨n, e1, k⟩ := asRef_ok hb
    subst e1
    obtain ⟨o, g1, k⟩ := opt1_ok k
    obtain ⟨vs, e2, k⟩ := asTup_ok k
    subst e2
    cases z with
    | @ref n0 a e =>
      obtain ⟨a2, e', w1⟩ := R.rel _ _ g1
      rw [e] at e'
      cases e'
      cases w1 with
      | @tup vs its hl hr =>
        obtain ⟨t1, t2⟩ := t.len env
        have hlen := hr.length
        rw [Array.length_toList] at hlen
        refine wpAny_assign_Tuple hA.1 hl (by rw [t1, hlen, asgN_len k]) t2 fun h' hx => ?_
        have hk : ∀ b o, s.heap.get? b = some o → h'.get? b = some o := fun b o e => hx b o (Nat.ne_of_lt (Heap.lt_size e)) e
        exact bindN_R O S t k (R.grown hk) (N.grown hk) hr fun h2 tk2 R2 X2 N2 => q h2 tk2 R2 ((Ext.grown hk).trans X2) N2
end
end Mine

namespace Mine
open PySem PySem.SeqAt PySem.W PySem.Calls PyProof.Rows PySem.Builtin PySem.Builtin.ObjectAttr

theorem DictLe_at {h : Heap} {d : Addr} {o : Obj} {es : Array DictEntry} {n k : Nat} (ho : h.get? d = some o) (hd : o.data = .dict es n) (hz : es.size ≤ k) : h.DictLe d k := fun o' es' n' ho' hd' => by
  rw [ho] at ho'
  cases ho'
  rw [hd] at hd'
  cases hd'
  exact hz
theorem nsSet_le {M : Model} {A : Around} {E : Value → Shared → Prop} {s : Shared} {a : Addr} {m} {name : Str} {v : Value} {k : Nat} {Q : Unit → Shared → Prop} (hn : s.heap.Ns a m) (hz : s.heap.DictLe a k)
    (q : ∀ h', h'.Ns a (fun x => if x = name then some v else m x) → h'.DictLe a (k + 1) → Heap.SameBut a s.heap h' → Q () { s with heap := h', toks := s.toks + 1 }) : wpAny M A (nsSet a name v) Q E s := by
  obtain ⟨o, es, ep, ho, hd, hk, hm⟩ := hn
  have hes := hz _ _ _ ho hd
  unfold nsSet
  refine wpAny_bind (wpAny_bind (wpAny_askSetting (wpAny_pure (wpAny_bind (wpAny_mkText (wpAny_bind (wpAny_loadPart ho ?_)))))))
  have hany : es.any (·.refKey) = false := by
    rw [Array.any_eq_false']; intro e he; obtain ⟨n, t, h⟩ := hk e he; simp [DictEntry.refKey, h]
  rw [hd]
  dsimp only
  have cc : aRefKeyMayBeTheName name es = false := by rw [aRefKeyMayBeTheName_at, hany, Bool.and_false]
  rw [cc]
  refine wpAny_updatePart ho ?_
  obtain ⟨oc, odi, odd, osl⟩ := o
  subst hd
  cases hi : es.findIdx? (·.key.isStr name) with
  | some i =>
    refine q _ ⟨_, _, ep, Heap.get?_update_self _ ho (by simp only [Obj.putName_eq, Obj.putNameByArray, hi]; rfl), by simp only [Obj.putName_eq, Obj.putNameByArray, hi]; rfl, hk.modify _ _, fun x => ?_⟩
      (DictLe_at (Heap.get?_update_self _ ho (by simp only [Obj.putName_eq, Obj.putNameByArray, hi]; rfl)) (by simp only [Obj.putName_eq, Obj.putNameByArray, hi]; rfl) (by rw [Array.size_modify]; omega)) (Heap.SameBut.update ..)
    show _ = if x = name then some v else m x
    rw [← hm]; exact findBy_modify (fun n v => v.isStr n) Value.isStr_inj es name x v i hi
  | none =>
    refine q _ ⟨_, _, ep + 1, Heap.get?_update_self _ ho (by simp only [Obj.putName_eq, Obj.putNameByArray, hi]; rfl), by simp only [Obj.putName_eq, Obj.putNameByArray, hi]; rfl, hk.push _ _ _ _, fun x => ?_⟩
      (DictLe_at (Heap.get?_update_self _ ho (by simp only [Obj.putName_eq, Obj.putNameByArray, hi]; rfl)) (by simp only [Obj.putName_eq, Obj.putNameByArray, hi]; rfl) (by rw [Array.size_push]; omega)) (Heap.SameBut.update ..)
    show _ = if x = name then some v else m x
    rw [← hm]
    exact findBy_push (fun n v => v.isStr n) es name x _ _ v (fun y => by
      show (name == y) = decide (y = name)
      by_cases h : y = name
      · subst h; simp
      · have : ¬ name = y := fun e => h e.symm
        simp [h, this]) hi

section
variable {c : Cx} {r : Nat} {sc : Scope}

theorem setA_R (O : CxOk c) {ok : Nat → Pn → Bool} {a v : V} {f : Pn} {x : Str} {H H' : Hp} (h : setA ok a f v H = some H') (hn : c.nm f x) {φ : Phi} {u y : Value} {s : Shared} {A : Around} {Q : Unit → Shared → Prop} {E : Value → Shared → Prop}
    (R : SR c φ H s.heap) (z : VR c φ a u) (zv : VR c φ v y) (q : ∀ h' tk, SR c φ H' h' → Ext noX φ s.heap φ h' → Q () { s with heap := h', toks := tk }) : wpAny (model c.prog c.w) A (setAttr u x y) Q E s := by
  obtain ⟨n, rfl, h⟩ := asRef_ok h
  obtain ⟨o, h1, h⟩ := opt1_ok h
  obtain ⟨k, d, rfl, h⟩ := asInst_ok h
  obtain ⟨_, h⟩ := grdO_ok h
  obtain ⟨p, h2, h⟩ := opt1_ok h
  obtain ⟨mm, fs, rfl, h⟩ := asNs_ok h
  obtain ⟨hmm, h⟩ := grdO_ok h
  have hmm := W.Z.blt_iff.mp hmm
  cases h
  cases z with
  | ref e =>
    obtain ⟨ad, e1, w1⟩ := R.rel _ _ h1
    rw [e] at e1
    cases e1
    cases w1 with
    | @inst k d dx hk hd hi =>
      obtain ⟨ad2, e2, w2⟩ := R.rel _ _ h2
      rw [hd] at e2
      cases e2
      cases w2 with
      | @ns fs m k0 hm hz hr =>
        obtain ⟨od, hod, _⟩ : ∃ od, s.heap.get? dx = some od ∧ True := by obtain ⟨o, es, ep, e, _⟩ := hm; exact ⟨o, e, trivial⟩
        have X : c.K.In s.heap := O.K.keeps R.base
        refine set_plain (K := c.K) X (C := c.ca k) (ox := instObj (c.ca k) dx) (od := some od) ⟨hi, rfl, rfl, hod⟩ (O.sa k hk) ?_
        refine osa_open (K := c.K) (ox := instObj (c.ca k) dx) (od := some od) (r := none) X ⟨hi, rfl, rfl, hod⟩ (O.over k hk) (by unfold takerIn; rw [O.att k f x hk hn]; rfl) fun b => ?_
        dsimp only
        unfold storeInOwnDict
        obtain ⟨cd, hc, hd'⟩ := any_some (O.dict k hk)
        refine wpAny_bind (wpAny_pure (wpAny_bind (wpAny_bind (wpAny_loadPart hi (wpAny_bind (Looks.here (s := { s with toks := s.toks + 1 }) (looks_clsIn X hc) ?_))))))
        rw [hd']
        refine wpAny_pure (a := some dx) (wpAny_bind (wpAny_pure (wpAny_bind ?_)))
        refine nsSet_le hm hz fun h' hm' hz' hs => ?_
        obtain ⟨o', es', ep', ho', hdd', hrest⟩ := id hm'
        refine wpAny_bind (wpAny_lookBehind ho' (by rw [hdd']; exact pastItsLine_dict (by have := hz' _ _ _ ho' hdd'; rw [sizeLine_eq]; have e2 : mm < 900 := hmm; omega)) ?_)
        refine wpAny_pure ?_
        have R2 := R.update (o := .ns (Nat.succ mm) (fs.set f v)) hd hs (.ns hm' hz' fun p' x' v' hn' hv' => ?_)
        · exact q h' _ R2.1 R2.2
        · by_cases e : x' = x
          · have e2 : p' = f := by subst e; exact O.nmInj _ _ _ hn' hn
            subst e2
            rw [TrV.get_set_self] at hv'
            cases hv'
            exact ⟨y, if_pos e, zv⟩
          · have e2 : f ≠ p' := fun e2 => by subst e2; exact e (O.nmFun _ _ _ hn' hn)
            rw [TrV.get_set_ne _ _ _ _ e2] at hv'
            obtain ⟨w, a, b⟩ := hr p' x' v' hn' hv'
            exact ⟨w, by rw [if_neg e]; exact a, b⟩
end
end Mine

namespace Mine
open PySem PySem.SeqAt PySem.W PySem.Calls PyProof.Rows

section
variable {c : Cx} {r : Nat} {sc : Scope}

/-! stores at an item -/
theorem setItem_isL' {prog : Program} {w : World} {A : Around} {E : Value → Shared → Prop} {s : Shared} {l : Addr} {items : Array Value} {n : Nat} {k : Int} {t : Tok} {v : Value} {Q : Unit → Shared → Prop} (hl : IsL s.heap l items n)
    (h0 : 0 ≤ k) (hfit : k < 2 ^ 63) (hn : k < items.size)
    (hQ : ∀ h' n', IsL h' l (items.setIfInBounds k.toNat v) n' → Heap.SameBut l s.heap h' → Q () { s with heap := h' }) :
    wpAny (model prog w) A (setItem (.ref l) (.int k t) v) Q E s := by
  have hl' := hl.isList
  obtain ⟨o, ho, hc, ne, hd⟩ := id hl'
  unfold setItem
  try with_reducible refine wpAny_holding ?_
  first | refine wpAny_bind (wpAny_pure ?_) | skip
  refine wpAny_bind (wpAny_sequenceKey hl'.typeIs (by decide) ?_)
  refine wpAny_bind (wpAny_callSpecial?_slot (name := Str.ofString "__setitem__") hl'.typeIs slot_list_setitem
    (wpAny_call_entry slot_list_setitem hl'.typeIs entry_list_setitem ?_ (args_list_setitem _ _ _)))
  show wpAny _ _ (Builtin.List.listSubscript? (.int k t) >>= _) _ _ s
  refine wpAny_bind (wpAny_listSubscript_int (fitsIndex_of h0 hfit) ?_)
  clear hfit
  obtain ⟨j, rfl⟩ := Int.eq_ofNat_of_zero_le h0
  have hj : j < items.size := by omega
  have hx' : items[j]? = some items[j] := Array.getElem?_eq_getElem hj
  show wpAny _ _ ((seqItemAt l j >>= fun r => pure (r.map (j, ·))) >>= _) _ _ s
  refine wpAny_bind (wpAny_bind (wpAny_seqItemAt ho hd (wpAny_pure ?_)))
  rw [hx']
  show wpAny _ _ (setSeqItemAt l j v >>= _) _ _ s
  have hfin := IsL.update hl (·.setIfInBounds j v)
  refine wpAny_bind (wpAny_setSeqItemAt ho hd ?_)
  first
    | exact wpAny_bind (wpAny_pure (wpAny_pure ⟨.none, rfl, wpAny_pure (hQ _ _ hfin (Heap.SameBut.update ..))⟩))
    | exact wpAny_pure ⟨.none, rfl, wpAny_pure (hQ _ _ hfin (Heap.SameBut.update ..))⟩
theorem setItem_isL {prog : Program} {w : World} {A : Around} {E : Value → Shared → Prop} {s : Shared} {l : Addr} {items : Array Value} {n j : Nat} {t : Tok} {v : Value} {Q : Unit → Shared → Prop} (hl : IsL s.heap l items n)
    (hj : j < items.size) (hfit : j ≤ 100000)
    (hQ : ∀ h' n', IsL h' l (items.setIfInBounds j v) n' → Heap.SameBut l s.heap h' → Q () { s with heap := h' }) :
    wpAny (model prog w) A (setItem (.ref l) (.int (.ofNat j) t) v) Q E s :=
  setItem_isL' hl (Int.natCast_nonneg _) (by show ((j : Nat) : Int) < _; omega) (by show ((j : Nat) : Int) < _; omega) hQ

def SetOk (c : Cx) (f : SetF) : Prop := ∀ a i x H H', f a i x H = some H' → ∀ (A : Around) (φ : Phi) (s : Shared) (u w y : Value) (Q : Unit → Shared → Prop) (E : Value → Shared → Prop),
  SR c φ H s.heap → VR c φ a u → VR c φ i w → VR c φ x y → (∀ h' tk, SR c φ H' h' → Ext noX φ s.heap φ h' → Q () { s with heap := h', toks := tk }) → wpAny (model c.prog c.w) A (setItem u w y) Q E s

theorem all2_set {φ : Phi} {vs : List V} {its : Array Value} {j : Nat} {x : V} {y : Value} (z : All2 (VR c φ) vs its.toList) (zx : VR c φ x y) : All2 (VR c φ) (vs.set j x) (its.setIfInBounds j y).toList := by
  rw [Array.toList_setIfInBounds]
  exact z.set zx
theorem set_L : SetOk c setL := by
  intro a i x H H' h A φ s u w y Q E R z1 z2 z3 q
  obtain ⟨n, rfl, h⟩ := asRef_ok h
  obtain ⟨k, rfl, h⟩ := asInt_ok (v := i) h
  obtain ⟨o, h1, h⟩ := opt1_ok h
  obtain ⟨vs, rfl, h⟩ := asList_ok h
  obtain ⟨j, rfl, h⟩ := nat1_ok h
  obtain ⟨hj, h⟩ := grdO_ok h
  obtain ⟨ws, h2, h⟩ := opt1_ok h
  cases h
  have hj := W.Z.blt_iff.mp hj
  obtain ⟨hlt, rfl⟩ := lset_ok _ _ _ _ h2
  cases z2
  cases z1 with
  | ref e =>
    obtain ⟨ad, e', w1⟩ := R.rel _ _ h1
    rw [e] at e'
    cases e'
    cases w1 with
    | list hl hr =>
      have hlen := hr.length
      rw [Array.length_toList] at hlen
      refine setItem_isL hl (by omega) (Nat.le_of_lt hj) fun h' n' hl' hs => ?_
      have U := R.update (o := .list (vs.set j x)) e hs (.list hl' (all2_set hr z3))
      exact q h' _ U.1 U.2
theorem set_R : SetOk c setR := by
  intro a i x H H' h A φ s u w y Q E R z1 z2 z3 q
  obtain ⟨n, rfl, h⟩ := asRef_ok h
  obtain ⟨k, rfl, h⟩ := asInt_ok (v := i) h
  obtain ⟨o, h1, h⟩ := opt1_ok h
  obtain ⟨m, d, t, rfl, h⟩ := asArr_ok h
  obtain ⟨j, rfl, h⟩ := nat1_ok h
  obtain ⟨hj, h⟩ := grdO_ok h
  cases h
  have hj := W.Z.blt_iff.mp hj
  cases z2
  cases z1 with
  | ref e =>
    obtain ⟨ad, e', w1⟩ := R.rel _ _ h1
    rw [e] at e'
    cases e'
    cases w1 with
    | @arr n d t its k hl hs hm hr =>
      subst hs
      refine setItem_isL hl hj (by omega) fun h' n' hl' hs => ?_
      have U := R.update (o := .arr its.size d (aset x 11 j t)) e hs (.arr hl' (by rw [Array.size_setIfInBounds]) hm fun i hi => ?_)
      · exact q h' _ U.1 U.2
      · obtain ⟨v, p1, p2⟩ := hr i hi
        unfold agetD
        rw [aget_aset _ 11 j i t (by omega) (by omega)]
        by_cases hji : j = i
        · subst hji
          rw [if_pos rfl]
          exact ⟨y, by rw [Array.getElem?_setIfInBounds_self_of_lt hi], z3⟩
        · rw [if_neg hji]
          exact ⟨v, by rw [Array.getElem?_setIfInBounds_ne hji]; exact p1, p2⟩
theorem iget_iput (x : V) (i k : Int) : ∀ es : List (Int × V), iget (iput es i x) k = if k = i then some x else iget es k
  | [] => by
    show bif_ (ieq i k) (some x) Option.none = _
    by_cases h : k = i
    · subst h; rw [if_pos rfl, (ieq_iff k k).mpr rfl]; rfl
    · rw [if_neg h]
      have : ieq i k = false := by cases e : ieq i k with | false => rfl | true => exact absurd ((ieq_iff i k).mp e).symm h
      rw [this]; rfl
  | (a, b) :: r => by
    have hput : iput ((a, b) :: r) i x = bif_ (ieq a i) ((i, x) :: r) ((a, b) :: iput r i x) := rfl
    have hget : ∀ (a : Int) (b : V) (r : List (Int × V)), iget ((a, b) :: r) k = bif_ (ieq a k) (some b) (iget r k) := fun _ _ _ => rfl
    rw [hput, hget]
    cases e : ieq a i with
    | true =>
      have := (ieq_iff a i).mp e
      subst this
      show iget ((a, x) :: r) k = _
      rw [hget]
      by_cases h : k = a
      · subst h; rw [if_pos rfl, (ieq_iff k k).mpr rfl]; rfl
      · rw [if_neg h]
        have : ieq a k = false := by cases e : ieq a k with | false => rfl | true => exact absurd ((ieq_iff a k).mp e).symm h
        rw [this]; rfl
    | false =>
      show iget ((a, b) :: iput r i x) k = _
      rw [hget, iget_iput x i k r]
      by_cases h : k = i
      · subst h
        rw [if_pos rfl, if_pos rfl]
        rw [e]; rfl
      · rw [if_neg h, if_neg h]
theorem iput_len (x : V) (i : Int) : ∀ es : List (Int × V), iget es i = Option.none → (iput es i x).length = es.length + 1
  | [], _ => rfl
  | (a, b) :: r, h => by
    have hput : iput ((a, b) :: r) i x = bif_ (ieq a i) ((i, x) :: r) ((a, b) :: iput r i x) := rfl
    have hget : iget ((a, b) :: r) i = bif_ (ieq a i) (some b) (iget r i) := rfl
    rw [hget] at h
    rw [hput]
    cases e : ieq a i with
    | true => rw [e] at h; cases h
    | false =>
      rw [e] at h
      show (((a, b) :: iput r i x)).length = _
      rw [List.length_cons, List.length_cons, iput_len x i r h]
theorem set_D : SetOk c setD := by
  intro a i x H H' h A φ s u w y Q E R z1 z2 z3 q
  obtain ⟨n, rfl, h⟩ := asRef_ok h
  obtain ⟨k, rfl, h⟩ := asInt_ok (v := i) h
  obtain ⟨o, h1, h⟩ := opt1_ok h
  obtain ⟨es, rfl, h⟩ := asDict_ok h
  obtain ⟨hz, h⟩ := grdO_ok h
  have hz := W.Z.blt_iff.mp hz
  rw [llen_eq] at hz
  cases hg : iget es k with
  | some v => rw [hg] at h; cases h
  | none =>
    rw [hg] at h
    cases h
    cases z2
    cases z1 with
    | ref e =>
      obtain ⟨ad, e', w1⟩ := R.rel _ _ h1
      rw [e] at e'
      cases e'
      cases w1 with
      | @dict es f hl hd hr =>
        refine wpAny_setItem_intMap_le hl hd (line_size (Nat.le_of_lt hz)) fun h' hl' hd' hs => ?_
        have U := R.update (o := .dict (iput es k x)) e hs (.dict hl' (by rw [iput_len x k es hg]; exact hd') fun k' v' hv => ?_)
        · exact q h' _ U.1 U.2
        · rw [iget_iput] at hv
          by_cases hk : k' = k
          · rw [if_pos hk] at hv
            cases hv
            exact ⟨y, if_pos hk, z3⟩
          · rw [if_neg hk] at hv
            obtain ⟨v2, p1, p2⟩ := hr k' v' hv
            exact ⟨v2, by rw [if_neg hk]; exact p1, p2⟩

/-! statements -/
theorem forced {α : Type} {z : Int} : forceI z (fun z => some (V.int z)) = some (.int z) := forceI_eq _ _
theorem aug_ok {f : Int → Int → Option Int} {a b z : V} (h : augI f a b = some z) : ∃ i j k, a = .int i ∧ b = .int j ∧ f i j = some k ∧ z = .int k := by
  obtain ⟨i, e1, h⟩ := asInt_ok h
  obtain ⟨j, e2, h⟩ := asInt_ok h
  obtain ⟨k, e3, h⟩ := opt1_ok h
  rw [forceI_eq] at h
  cases h
  exact ⟨i, j, k, e1, e2, e3, rfl⟩

def notComp : Expr → Bool
  | .ListComp .. => false
  | .SetComp .. => false
  | .DictComp .. => false
  | _ => true
theorem noSwap {v : Expr} (h : notComp v = true) (t : Option Expr) (l : Nat) (env : Env) : swapsWith v t l env = pure false := by
  cases v <;> first | rfl | cases h

theorem snd_asg (O : CxOk c) {p : Pn} {x : Str} {e : Ex} {ee : Expr} {pos' pos} (hn : c.nm p x) (hs : isStore sc x = true) (hc : notComp ee = true) (h : SndE c r sc e ee) : SndS c r sc (s_asg p e) (.Assign [.Name x pos'] ee pos) := by
  intro lo H f lo' H' hx env A φ s Q E S hA R N q
  obtain ⟨v, H1, h1, hx⟩ := bindS_ok hx
  cases hx
  refine wpAny_Assign_Name (h lo H v _ h1 env A φ s _ E S hA R N fun φ1 hp1 tk1 y R1 X1 z1 => ?_) (noSwap hc _ _ _)
  exact store_R O hn (isStore_env hs S) R1 (N.ext X1) z1 fun h' tk R2 X2 N2 => q φ1 h' tk _ R2 (X1.of_no.trans X2) N2 .next

theorem snd_asgA (O : CxOk c) {ok : Nat → Pn → Bool} {o : Ex} {f : Pn} {x : Str} {e : Ex} {eo ee : Expr} {pos' pos} (hn : c.nm f x) (hc : notComp ee = true) (ho : SndE c r sc o eo) (h : SndE c r sc e ee) :
    SndS c r sc (s_asgA ok o f e) (.Assign [.Attribute eo x pos'] ee pos) := by
  intro lo H fl lo' H' hx env A φ s Q E S hA R N q
  obtain ⟨v, H1, h1, hx⟩ := bindS_ok hx
  obtain ⟨a, H2, h2, hx⟩ := bindS_ok hx
  obtain ⟨H3, h3, hx⟩ := optS_ok hx
  cases hx
  refine plainObj_wpAny_Assign_Attribute (two_R h ho h1 h2 S hA R N fun φ1 hp1 tk1 y u R1 X1 z1 z2 => ?_) (noSwap hc _ _ _)
  exact setA_R O h3 hn R1 z2 z1 fun h' tk R2 X2 => q φ1 h' tk _ R2 (X1.trans X2).of_no (N.ext (X1.trans X2)) .next

theorem snd_asgS {g : SetF} (hg : SetOk c g) {o i e : Ex} {eo ei ee : Expr} {pos' pos} (hc : notComp ee = true) (ho : SndE c r sc o eo) (hi : SndE c r sc i ei) (h : SndE c r sc e ee) :
    SndS c r sc (s_asgS g o i e) (.Assign [.Subscript eo ei pos'] ee pos) := by
  intro lo H fl lo' H' hx env A φ s Q E S hA R N q
  obtain ⟨v, H1, h1, hx⟩ := bindS_ok hx
  obtain ⟨a, H2, h2, hx⟩ := bindS_ok hx
  obtain ⟨j, H3, h3, hx⟩ := bindS_ok hx
  obtain ⟨H4, h4, hx⟩ := optS_ok hx
  cases hx
  refine wpAny_Assign_Subscript (h lo H v H1 h1 env A φ s _ E S hA R N fun φ0 hp0 tk0 y R0 X0 z1 => ho lo H1 a H2 h2 env A φ0 _ _ E S hA R0 (N.ext X0) fun φ1 hp1 tk1 u R1 X1 z2 => ?_) (noSwap hc _ _ _)
  have z1 := z1.mono X1.sub
  have X1 := X0.trans X1
  refine hi lo H2 j H3 h3 env A φ1 _ _ E S hA R1 (N.ext X1) fun φ2 hp2 tk2 w R2 X2 z3 => ?_
  exact hg _ _ _ _ _ h4 A φ2 _ u w y _ E R2 (z2.mono X2.sub) z3 (z1.mono X2.sub) fun h' tk R3 X3 => q φ2 h' tk _ R3 ((X1.trans X2).trans X3).of_no (N.ext ((X1.trans X2).trans X3)) .next

theorem snd_aug (O : CxOk c) {p : Pn} {x : Str} {op : Operator} {f : Int → Int → Option Int} {e : Ex} {ee : Expr} {pos' pos} (hn : c.nm p x) (hs : isStore sc x = true) (hf : OpOk c op f) (h : SndE c r sc e ee) :
    SndS c r sc (s_aug p f e) (.AugAssign (.Name x pos') op ee pos) := by
  intro lo H fl lo' H' hx env A φ s Q E S hA R N q
  obtain ⟨a, h0, hx⟩ := optS_ok hx
  obtain ⟨v, H1, h1, hx⟩ := bindS_ok hx
  obtain ⟨z, h2, hx⟩ := optS_ok hx
  cases hx
  obtain ⟨i, j, k, e1, e2, hk, e3⟩ := aug_ok h2
  subst e1 e2 e3
  refine wpAny_AugAssign_Name (loadName_R O hn (isStore_env hs S) h0 N fun u zu => ?_)
  cases zu
  refine h lo H _ _ h1 env A φ s _ E S hA R N fun φ1 hp1 tk1 y R1 X1 z1 => ?_
  cases z1
  refine (hf i j k hk A _ _ E _ _ fun t' tk => ?_).2
  exact store_R O (s := { s with heap := hp1, toks := tk }) hn (isStore_env hs S) R1 (N.ext X1) (.int k t') fun h' tk R2 X2 N2 => q φ1 h' tk _ R2 (X1.of_no.trans X2) N2 .next

theorem snd_augA (O : CxOk c) {ok : Nat → Pn → Bool} {o : Ex} {p : Pn} {x : Str} {op : Operator} {f : Int → Int → Option Int} {e : Ex} {eo ee : Expr} {pos' pos} (hn : c.nm p x) (hf : OpOk c op f) (ho : SndE c r sc o eo) (h : SndE c r sc e ee) :
    SndS c r sc (s_augA ok o p f e) (.AugAssign (.Attribute eo x pos') op ee pos) := by
  intro lo H fl lo' H' hx env A φ s Q E S hA R N q
  obtain ⟨a, H1, h1, hx⟩ := bindS_ok hx
  obtain ⟨x0, h0, hx⟩ := optS_ok hx
  obtain ⟨v, H2, h2, hx⟩ := bindS_ok hx
  obtain ⟨z, h3, hx⟩ := optS_ok hx
  obtain ⟨H3, h4, hx⟩ := optS_ok hx
  cases hx
  obtain ⟨i, j, k, e1, e2, hk, e3⟩ := aug_ok h3
  subst e1 e2 e3
  refine wpAny_AugAssign_AttributeAny (ho lo H a H1 h1 env A φ s _ E S hA R N fun φ1 hp1 tk1 u R1 X1 z1 => ?_)
  refine attr_R O h0 hn R1 z1 fun tk2 y zy => ?_
  cases zy
  refine h lo H1 _ _ h2 env A φ1 { s with heap := hp1, toks := tk2 } _ E S hA R1 (N.ext X1) fun φ2 hp2 tk3 y2 R2 X2 z2 => ?_
  cases z2
  refine (hf i j k hk A _ _ E _ _ fun t' tk => ?_).2
  exact setA_R O (s := { s with heap := hp2, toks := tk }) h4 hn R2 (z1.mono X2.sub) (.int k t') fun h' tk R3 X3 => q φ2 h' tk _ R3 ((X1.trans X2).trans X3).of_no (N.ext ((X1.trans X2).trans X3)) .next

theorem aug_store {i : Expr} (h : notSlice i = true) (ov iv new : Value) : augStore i ov iv new = (do holding [new, ov, iv] (setItem ov iv new); release [new, ov, iv] []; pure .next) := by
  cases i <;> first | rfl | cases h
theorem snd_augS {o i : Ex} {op : Operator} {f : Int → Int → Option Int} {e : Ex} {eo ei ee : Expr} {pos' pos} (hf : OpOk c op f) (hns : notSlice ei = true) (ho : SndE c r sc o eo) (hi : SndE c r sc i ei) (h : SndE c r sc e ee) :
    SndS c r sc (s_augS o i f e) (.AugAssign (.Subscript eo ei pos') op ee pos) := by
  intro lo H fl lo' H' hx env A φ s Q E S hA R N q
  obtain ⟨a, H1, h1, hx⟩ := bindS_ok hx
  obtain ⟨j0, H2, h2, hx⟩ := bindS_ok hx
  obtain ⟨x0, h0, hx⟩ := optS_ok hx
  obtain ⟨v, H3, h3, hx⟩ := bindS_ok hx
  obtain ⟨z, h4, hx⟩ := optS_ok hx
  obtain ⟨H4, h5, hx⟩ := optS_ok hx
  cases hx
  obtain ⟨i, j, k, e1, e2, hk, e3⟩ := aug_ok h4
  subst e1 e2 e3
  refine wpAny_AugAssign_SubscriptAny (ho lo H a H1 h1 env A φ s _ E S hA R N fun φ0 hp0 tk0 u R0 X0 z1 => hi lo H1 j0 H2 h2 env A φ0 _ _ E S hA R0 (N.ext X0) fun φ1 hp1 tk1 w R1 X1 z2 => ?_) (aug_store hns)
  have z1 := z1.mono X1.sub
  have X1 := X0.trans X1
  refine (sub_L _ _ _ _ h0 A φ1 _ u w _ E R1 z1 z2 fun tk2 y zy => ?_).2
  cases zy
  refine h lo H2 _ _ h3 env A φ1 { s with heap := hp1, toks := tk2 } _ E S hA R1 (N.ext X1) fun φ2 hp2 tk3 y2 R2 X2 z3 => ?_
  cases z3
  refine (hf i j k hk A _ _ E _ _ fun t' tk => ?_).2
  exact set_L _ _ _ _ _ h5 A φ2 { s with heap := hp2, toks := tk } u w _ _ E R2 (z1.mono X2.sub) (z2.mono X2.sub) (.int k t') fun h' tk R3 X3 => q φ2 h' tk _ R3 ((X1.trans X2).trans X3).of_no (N.ext ((X1.trans X2).trans X3)) .next

theorem snd_exp {e : Ex} {ee : Expr} {pos} (hc : notComp ee = true) (h : SndE c r sc e ee) : SndS c r sc (s_exp e) (.Expr ee pos) := by
  intro lo H f lo' H' hx env A φ s Q E S hA R N q
  obtain ⟨v, H1, h1, hx⟩ := bindS_ok hx
  cases hx
  refine wpAny_Expr_any (h lo H v _ h1 env A φ s _ E S hA R N fun φ1 hp1 tk1 y R1 X1 z1 => ?_) ?_ (noSwap hc _ _ _)
  · exact q φ1 hp1 tk1 _ R1 X1.of_no (N.ext X1) .next
  · unfold interactive; rw [N.kind]; rfl

theorem snd_ite {t : Tx} {a b : Sx} {et : Expr} {sa sb : List Stmt} {pos} (ht : SndT c r sc t et) (ha : SndSS c r sc a sa) (hb : SndSS c r sc b sb) : SndS c r sc (s_ite t a b) (.If et sa sb pos) := by
  intro lo H f lo' H' hx env A φ s Q E S hA R N q
  obtain ⟨v, H1, h1, hx⟩ := bindS_ok hx
  refine wpAny_If (ht lo H v _ h1 env A φ s _ E S hA R N fun φ1 hp1 tk1 R1 X1 => ?_)
  cases v with
  | true => exact ha lo H1 f lo' H' hx env A φ1 _ Q E S hA R1 (N.ext X1) fun φ2 hp2 tk2 g R2 X2 N2 z => q φ2 hp2 tk2 g R2 (X1.of_no.trans X2) N2 z
  | false => exact hb lo H1 f lo' H' hx env A φ1 _ Q E S hA R1 (N.ext X1) fun φ2 hp2 tk2 g R2 X2 N2 z => q φ2 hp2 tk2 g R2 (X1.of_no.trans X2) N2 z

theorem snd_ret {e : Ex} {ee : Expr} {pos} (h : SndE c r sc e ee) : SndS c r sc (s_ret e) (.Return (some ee) pos) := by
  intro lo H f lo' H' hx env A φ s Q E S hA R N q
  obtain ⟨v, H1, h1, hx⟩ := bindS_ok hx
  cases hx
  exact wpAny_Return_some (h lo H v _ h1 env A φ s _ E S hA R N fun φ1 hp1 tk1 y R1 X1 z1 => q φ1 hp1 tk1 _ R1 X1.of_no (N.ext X1) (.ret z1))
theorem snd_cont {pos} : SndS c r sc s_cont (.Continue pos) := by
  intro lo H f lo' H' hx env A φ s Q E S hA R N q
  cases hx
  show wpAny _ _ (do standAt pos; pure Flow.cont) _ _ _
  exact wpAny_bind (wpAny_standAt (wpAny_pure (q φ s.heap s.toks _ R .refl N .cont)))
theorem snd_bad {st : Stmt} : SndS c r sc s_bad st := by
  intro lo H f lo' H' hx
  cases hx
theorem snd_ss_nil : SndSS c r sc ss_nil [] := by
  intro lo H f lo' H' hx env A φ s Q E S hA R N q
  cases hx
  exact wpAny_execs_nil (q φ s.heap s.toks _ R .refl N .next)
theorem snd_ss_cons {a b : Sx} {sa : Stmt} {sb : List Stmt} (ha : SndS c r sc a sa) (hb : SndSS c r sc b sb) : SndSS c r sc (ss_cons a b) (sa :: sb) := by
  intro lo H f lo' H' hx env A φ s Q E S hA R N q
  obtain ⟨g, l, H1, h1, hx⟩ := rbindS_ok hx
  refine wpAny_execs_cons (ha lo H g l H1 h1 env A φ s _ E S hA R N fun φ1 hp1 tk1 g' R1 X1 N1 z1 => ?_)
  cases z1 with
  | next => exact hb l H1 f lo' H' hx env A φ1 _ Q E S hA R1 N1 fun φ2 hp2 tk2 g2 R2 X2 N2 z2 => q φ2 hp2 tk2 g2 R2 (X1.trans X2) N2 z2
  | cont => cases hx; exact q φ1 hp1 tk1 _ R1 X1 N1 .cont
  | ret zz => cases hx; exact q φ1 hp1 tk1 _ R1 X1 N1 (.ret zz)

/-! tests -/
theorem snd_t_not {a : Tx} {e : Expr} {pos} (ha : SndT c r sc a e) : SndT c r sc (t_not a) (.UnaryOp .Not e pos) := by
  intro lo H b H' hx env A φ s Q E S hA R N q
  obtain ⟨v, H1, h1, hx⟩ := bind_ok hx
  refine wpAny_isTrue_Not (ha lo H v _ h1 env A φ s _ E S hA R N fun φ1 hp1 tk1 R1 X1 => ?_)
  cases v <;> (cases hx; exact q φ1 hp1 tk1 R1 X1)
theorem snd_t_cmp {op : CmpOp} {f : CmpF} {a b : Ex} {ea eb : Expr} {pos} (hf : CmpOk c r op f) (ha : SndE c r sc a ea) (hb : SndE c r sc b eb) (hm : behindInMarks op eb = false) : SndT c r sc (t_cmp f a b) (.Compare ea [op] [eb] pos) := by
  intro lo H t H' h env A φ s Q E S hA R N q
  obtain ⟨x, H1, h1, h⟩ := bind_ok h
  obtain ⟨y, H2, h2, h⟩ := bind_ok h
  obtain ⟨t', ht, h⟩ := opt_ok h
  cases h
  refine wpAny_isTrue_Compare1 (two_R ha hb h1 h2 S hA R N fun φ' h' tk u w R' X' z1 z2 => ?_) hm
  exact hf x y _ _ ht A φ' _ u w _ E hA R' z1 z2 fun tk' => wpAny_truthy_bool (q φ' h' tk' R' X')
def plainTest : Expr → Bool
  | .UnaryOp .Not .. => false
  | .BoolOp .. => false
  | .Compare .. => false
  | .IfExp .. => false
  | _ => true
theorem snd_t_val {a : Ex} {e : Expr} (hp : ∀ env whole, isTrue e env whole = (do let v ← whole; standAt e.pos; holding [v] (truthy v))) (ha : SndE c r sc a e) : SndT c r sc (t_val a) e := by
  intro lo H b H' hx env A φ s Q E S hA R N q
  obtain ⟨v, H1, h1, hx⟩ := bind_ok hx
  obtain ⟨t, ht, hx⟩ := opt_ok hx
  cases hx
  exact wpAny_isTrue_value (ha lo H v _ h1 env A φ s _ E S hA R N fun φ1 hp1 tk1 y R1 X1 z => truth_R ht z (q φ1 hp1 tk1 R1 X1)) (hp _ _)
theorem snd_ts_nil {w : Bool} : SndTs c r sc w (t_tt w) [] := by
  intro lo H b H' hx env A φ s Q E S hA R N q
  cases hx
  cases w
  · exact wpAny_allTrue_Or_nil (q φ s.heap s.toks R .refl)
  · exact wpAny_allTrue_And_nil (q φ s.heap s.toks R .refl)
theorem snd_ts_cons {w : Bool} {a b : Tx} {e : Expr} {es : List Expr} (ha : SndT c r sc a e) (hb : SndTs c r sc w b es) : SndTs c r sc w (t_and w a b) (e :: es) := by
  intro lo H b' H' hx env A φ s Q E S hA R N q
  obtain ⟨v, H1, h1, hx⟩ := bind_ok hx
  cases w with
  | true =>
    refine wpAny_allTrue_And_cons (ha lo H v _ h1 env A φ s _ E S hA R N fun φ1 hp1 tk1 R1 X1 => ?_)
    cases v with
    | false => cases hx; exact q φ1 hp1 tk1 R1 X1
    | true => exact hb lo H1 b' H' hx env A φ1 _ Q E S hA R1 (N.ext X1) fun φ2 hp2 tk2 R2 X2 => q φ2 hp2 tk2 R2 (X1.trans X2)
  | false =>
    refine wpAny_allTrue_Or_cons (ha lo H v _ h1 env A φ s _ E S hA R N fun φ1 hp1 tk1 R1 X1 => ?_)
    cases v with
    | true => cases hx; exact q φ1 hp1 tk1 R1 X1
    | false => exact hb lo H1 b' H' hx env A φ1 _ Q E S hA R1 (N.ext X1) fun φ2 hp2 tk2 R2 X2 => q φ2 hp2 tk2 R2 (X1.trans X2)
theorem snd_t_bool {w : Bool} {x : Tx} {es : List Expr} {pos} (h : SndTs c r sc w x es) : SndT c r sc x (.BoolOp (if w then .And else .Or) es pos) := by
  intro lo H b H' hx env A φ s Q E S hA R N q
  exact wpAny_isTrue_BoolOp (h lo H b H' hx env A φ s Q E S hA R N q)
end
end Mine

namespace Mine
open PySem PySem.SeqAt PySem.W PySem.Calls PyProof.Rows

section
variable {c : Cx} {r : Nat} {sc : Scope}

theorem loadBuiltin_R (O : CxOk c) {x : Str} {y : Value} {lo : Lo} {H : Hp} {env : Env} {φ : Phi} {s : Shared} {A : Around} {Q : Value → Shared → Prop} {E : Value → Shared → Prop}
    (hk : env.kindOf x = some .globalImplicit) (hm : c.mg x = none) (hy : ∃ mb, c.h₀.Ns builtinsNs mb ∧ mb x = some y) (R : SR c φ H s.heap) (N : EnvR c env φ lo s.heap) (q : Q y s) : wpAny (model c.prog c.w) A (loadName env x) Q E s := by
  obtain ⟨mb, hb, hy⟩ := hy
  unfold loadName
  simp only [Env.blockKind, N.kind, hk, ScopeKind.isAnnotationScope, Bool.false_and, Bool.false_eq_true, if_false]
  unfold loadGlobal
  rw [N.glob]
  refine wpAny_bind (wpAny_nsGet (O.g.keeps R.base) ?_)
  rw [hm]
  rw [N.bi]
  refine wpAny_bind (wpAny_nsGet (hb.keeps R.base) ?_)
  rw [hy]
  exact wpAny_pure q

/-- the arguments of a call, then the call -/
theorem args_R {ts : Lx} {e : Expr} {es : List Expr} (hs : noStar (e :: es) = true) (h : SndL c r sc ts (e :: es)) {lo : Lo} {H H' : Hp} {vs : List V} (hx : ts lo H = .ok vs H') {env : Env} {A : Around} {φ : Phi} {s : Shared} {Q : Value → Shared → Prop} {E : Value → Shared → Prop} {pos : Pos} {f : Value} {P : Heap → Prop}
    (hk : ∀ h, P h → ∃ k, (k = Keeper.frame ∨ k = Keeper.machine ∨ k = Keeper.boundFrame) ∧ Looks (model c.prog c.w) h (keeperOf f) k)
    (S : ScOk sc env) (hA : Rm r A) (R : SR c φ H s.heap) (N : EnvR c env φ lo s.heap)
    (q : ∀ φ' h' tk ys, SR c φ' H' h' → Ext noX φ s.heap φ' h' → All2 (VR c φ') vs ys → P h' ∧ wpAny (model c.prog c.w) A (call f ys) Q E { s with heap := h', toks := tk }) :
    wpAny (model c.prog c.w) A (callWith pos f [] (backTo pos (starEach (e :: es) env)) []) Q E s := by
  have hp := star_any hs pos env
  have st := (star_cons hs pos env).1
  refine callWith_of (P := P) (by rw [hp]; rfl) hk ?_
  have hl := h lo H vs H' hx env A φ s (fun vs s' => P s'.heap ∧ wpAny (model c.prog c.w) A (call f ([] ++ vs) []) Q E s') E pos S hA R N fun φ' h' tk ys R' X' z => q φ' h' tk ys R' X' z
  rw [st] at hl ⊢
  exact evalArgs_plain hl

theorem small_abs {a : Int} (h : small a = true) : a.natAbs < 1000000000 := W.Z.blt_iff.mp h
theorem sm2_abs {a b : Int} (h : sm2 a b = true) : small a = true ∧ small b = true := by
  unfold sm2 at h
  cases e : small a with
  | false => rw [e] at h; cases h
  | true => rw [e] at h; exact ⟨rfl, h⟩
theorem not_zero {i : Int} (h : (!(ieq i 0)) = true) : i ≠ 0 := fun e => by
  rw [(ieq_iff i 0).mpr e] at h; cases h

theorem range_small {a b d : Int} (ha : a.natAbs < 1000000000) (hb : b.natAbs < 1000000000) (hd : d.natAbs < 1000000000) (h0 : d ≠ 0) : Builtin.Range.small a b d = true := by
  have hs : 0 ≤ Builtin.Range.rangeSize a b d ∧ Builtin.Range.rangeSize a b d ≤ 2000000000 := by
    unfold Builtin.Range.rangeSize
    have key : ∀ x y : Int, 0 ≤ x → x ≤ 1999999998 → 0 < y → 0 ≤ x / y ∧ x / y ≤ x := fun x y hx _ hy => ⟨Int.ediv_nonneg hx (by omega), Int.ediv_le_self _ hx⟩
    split
    · split
      · have := key (b - a - 1) d (by omega) (by omega) (by omega); omega
      · omega
    · split
      · have := key (a - b - 1) (-d) (by omega) (by omega) (by omega); omega
      · omega
  unfold Builtin.Range.small
  simp only [Builtin.Range.rangeFitsLong, Bool.and_eq_true, Bool.or_eq_true, decide_eq_true_eq, beq_iff_eq]
  refine ⟨by omega, .inr ?_⟩
  split <;> (simp only [Bool.and_eq_true, decide_eq_true_eq]; omega)

theorem snd_rng (O : CxOk c) {ts : Lx} {e : Expr} {es : List Expr} {p pos : Pos} (hs : noStar (e :: es) = true) (hk : sc.names.lookup (Str.ofString "range") = some .globalImplicit) (h : SndL c r sc ts (e :: es)) :
    SndE c r sc (e_rng ts) (.Call (.Name (Str.ofString "range") p) (e :: es) [] pos) := by
  intro lo H v H' hx env A φ s Q E S hA R N q
  obtain ⟨vs, H1, h1, hx⟩ := bind_ok hx
  obtain ⟨o, h2, hx⟩ := opt_ok hx
  cases hx
  refine wpAny_Call_NameR (wpAny_Name (loadBuiltin_R O (y := .type "range") (S _ _ hk) O.rng (by obtain ⟨mb, a, b, _⟩ := O.bi; exact ⟨mb, a, b⟩) R N ?_) (by decide +kernel))
  refine args_R (P := fun _ => True) hs h h1 (fun _ _ => ⟨.machine, .inr (.inl rfl), Looks.of_pure rfl⟩) S hA R N fun φ1 hp1 tk1 ys R1 X1 z1 => ⟨trivial, ?_⟩
  have fin : ∀ a b d t u w tk, o = .range a b d → Builtin.Range.small a b d = true → Q (.ref hp1.objs.size) { s with heap := hp1.push { cls := .type "range", data := .fields #[.int a t, .int b u, .int d w] }, toks := tk } := fun a b d t u w tk e hsm => by
    subst e
    obtain ⟨R2, X2⟩ := R1.push (x := { cls := .type "range", data := .fields #[.int a t, .int b u, .int d w] }) (o := .range a b d) rfl (.range (Heap.get?_push_size _ rfl) hsm)
    exact q _ _ tk _ R2 (X1.trans X2) (.ref Phi.put_self)
  cases z1 with
  | nil => cases h2
  | cons y1 z1 =>
    obtain ⟨a, e1, h2⟩ := asInt_ok h2
    subst e1
    cases y1
    cases z1 with
    | nil =>
      obtain ⟨g1, h2⟩ := grdO_ok h2
      cases h2
      exact call_range_1 (fin _ _ _ _ _ _ _ rfl (range_small (by decide) (small_abs g1) (by decide) (by decide)))
    | cons y2 z1 =>
      obtain ⟨b, e1, h2⟩ := asInt_ok h2
      subst e1
      cases y2
      cases z1 with
      | nil =>
        obtain ⟨g1, h2⟩ := grdO_ok h2
        cases h2
        exact call_range_2 (fin _ _ _ _ _ _ _ rfl (range_small (small_abs (sm2_abs g1).1) (small_abs (sm2_abs g1).2) (by decide) (by decide)))
      | cons y3 z1 =>
        obtain ⟨d, e1, h2⟩ := asInt_ok h2
        subst e1
        cases y3
        cases z1 with
        | nil =>
          obtain ⟨g1, h2⟩ := grdO_ok h2
          obtain ⟨g2, h2⟩ := grdO_ok h2
          obtain ⟨g3, h2⟩ := grdO_ok h2
          cases h2
          exact call_range_3 (not_zero g3) (fin _ _ _ _ _ _ _ rfl (range_small (small_abs (sm2_abs g1).1) (small_abs (sm2_abs g1).2) (small_abs g2) (not_zero g3))) (.inl (PyProof.noPylong_small (by have := small_abs g2; omega)))
        | cons y4 z1 => cases h2

theorem snd_len (O : CxOk c) {a : Ex} {e : Expr} {p pos : Pos} (hs : noStar [e] = true) (hk : sc.names.lookup (Str.ofString "len") = some .globalImplicit) (h : SndE c r sc a e) :
    SndE c r sc (e_len a) (.Call (.Name (Str.ofString "len") p) [e] [] pos) := by
  intro lo H v H' hx env A φ s Q E S hA R N q
  obtain ⟨u, H1, h1, hx⟩ := bind_ok hx
  obtain ⟨n, e1, hx⟩ := refR_ok hx
  subst e1
  obtain ⟨o, h2, hx⟩ := opt_ok hx
  obtain ⟨vs, e1, hx⟩ := listR_ok hx
  subst e1
  obtain ⟨g, hx⟩ := grd_ok hx
  rw [forceN_eq] at hx
  cases hx
  have g := ble_le g
  rw [llen_eq] at g
  refine wpAny_Call_NameR (wpAny_Name (loadBuiltin_R O (y := .builtin "len") (S _ _ hk) O.len (by obtain ⟨mb, a, _, b⟩ := O.bi; exact ⟨mb, a, b⟩) R N ?_) (by decide +kernel))
  refine args_R (ts := l_cons a l_nil) (vs := [.ref n]) (H' := H') (P := fun _ => True) hs (snd_l_cons hs h snd_l_nil) (by show ((a lo H).bind fun v H1 => (l_nil lo H1).bind fun vs H2 => Mine.R.ok (v :: vs) H2) = _; rw [h1]; rfl) (fun _ _ => ⟨.machine, .inr (.inl rfl), Looks.of_pure rfl⟩) S hA R N fun φ1 hp1 tk1 ys R1 X1 z1 => ⟨trivial, ?_⟩
  cases z1 with
  | cons y1 z1 =>
    cases z1
    cases y1 with
    | ref e2 =>
      obtain ⟨ad, e', w1⟩ := R1.rel _ _ h2
      rw [e2] at e'
      cases e'
      cases w1 with
      | @list vs its k hl hr =>
        have hlen := hr.length
        rw [Array.length_toList] at hlen
        refine PySem.Calls.call_len_list hl.isList (by have t2 : line = 100000 := rfl; omega) ?_
        rw [hlen]
        rw [llen_eq] at q
        exact q φ1 hp1 _ _ R1 X1 (.int _ _)

theorem append_isL {prog : Program} {w : World} {A : Around} {E : Value → Shared → Prop} {s : Shared} {l : Addr} {items : Array Value} {n : Nat} {x : Value} {Q : Value → Shared → Prop} (hl : IsL s.heap l items n) (hsz : items.size ≤ sizeLine)
    (hQ : ∀ h' n', IsL h' l (items.push x) n' → Heap.SameBut l s.heap h' → Q .none { s with heap := h' }) : wpAny (model prog w) A (call (.builtin "list.append") [.ref l, x]) Q E s := by
  refine wpAny_call_entry slot_list_append hl.isList.typeIs entry_list_append ?_ (args_list_append _ _)
  show wpAny _ _ (updateSeq l (·.push x) >>= fun _ => ret .none) _ _ s
  refine wpAny_bind ?_
  exact wpAny_updateSeq hl rfl (wpAny_pure ⟨.none, rfl, hQ _ _ (IsL.update hl (·.push x)) (Heap.SameBut.update ..)⟩)

theorem snd_app (O : CxOk c) {o x : Ex} {eo ex : Expr} {apos pos : Pos} (hp : plainBase eo = true) (hs : noStar [ex] = true) (hline : (apos.endLine == pos.line) = true) (ho : SndE c r sc o eo) (h : SndE c r sc x ex) :
    SndE c r sc (e_app o x) (.Call (.Attribute eo (Str.ofString "append") apos) [ex] [] pos) := by
  intro lo H v H' hx env A φ s Q E S hA R N q
  obtain ⟨a, H1, h1, hx⟩ := bind_ok hx
  obtain ⟨n, e1, hx⟩ := refR_ok hx
  subst e1
  obtain ⟨p0, h2, hx⟩ := opt_ok hx
  obtain ⟨vs0, e1, hx⟩ := listR_ok hx
  subst e1
  obtain ⟨y, H2, h3, hx⟩ := bind_ok hx
  obtain ⟨q0, h4, hx⟩ := opt_ok hx
  obtain ⟨vs, e1, hx⟩ := listR_ok hx
  subst e1
  obtain ⟨g, hx⟩ := grd_ok hx
  cases hx
  have g := ble_le g
  rw [llen_eq] at g
  have tr : backTo pos (starEach [ex] env) = [(false, eval ex env)] := (star_cons hs pos env).1
  refine wpAny_Call_append (by rw [base_plain hp]) (by rw [tr]; rfl) hline tr ?_
  refine ho lo H _ _ h1 env A φ s _ E S hA R N fun φ1 hp1 tk1 u R1 X1 z1 => ?_
  cases z1 with
  | @ref n' ad e2 =>
    obtain ⟨ad', e', w1⟩ := R1.rel _ _ h2
    rw [e2] at e'
    cases e'
    cases w1 with
    | @list _ its0 k0 hl0 hr0 =>
      refine ⟨ad, its0, rfl, ⟨_, k0, hl0, rfl, rfl, rfl⟩, ?_⟩
      refine h lo H1 y H2 h3 env A φ1 { s with heap := hp1, toks := tk1 } _ E S hA R1 (N.ext X1) fun φ2 hp2 tk2 y2 R2 X2 z2 => ?_
      obtain ⟨ad2, e', w2⟩ := R2.rel _ _ h4
      rw [X2.sub _ _ e2] at e'
      cases e'
      cases w2 with
      | @list _ its k hl hr =>
        have hlen := hr.length
        rw [Array.length_toList] at hlen
        refine append_isL (s := { s with heap := hp2, toks := tk2 }) hl (line_size (by have t2 : line = 100000 := rfl; omega)) fun h' n' hl' hs' => ?_
        have U := R2.update (o := .list (lapp vs [y])) (X2.sub _ _ e2) hs' (.list hl' (by rw [lapp_eq, Array.toList_push]; exact hr.app (.cons z2 .nil)))
        exact q φ2 h' _ _ U.1 ((X1.trans X2).trans U.2) .none
end
end Mine

namespace Mine
open PySem PySem.SeqAt PySem.W PySem.Calls PyProof.Rows

section
variable {c : Cx} {r : Nat} {sc : Scope}

theorem snd_dict1 {k v : Ex} {ek ev : Expr} {pos : Pos} (hk : SndE c r sc k ek) (hv : SndE c r sc v ev) : SndE c r sc (e_dict1 k v) (.Dict [some ek] [ev] pos) := by
  intro lo H w H' hx env A φ s Q E S hA R N q
  obtain ⟨x, H1, h1, hx⟩ := bind_ok hx
  obtain ⟨i, e1, hx⟩ := intR_ok hx
  subst e1
  obtain ⟨y, H2, h2, hx⟩ := bind_ok hx
  cases hx
  have hD := get_size s.heap
  have hk1 : ∀ b o, s.heap.get? b = some o → (s.heap.push { cls := .type "dict", data := .dict #[] }).get? b = some o := fun b o e => Heap.get?_push_of_some _ e
  have hD1 : (s.heap.push { cls := .type "dict", data := .dict #[] }).get? s.heap.objs.size = some { cls := .type "dict", data := .dict #[] } := Heap.get?_push_size _ rfl
  have hshape : (evalEachOpt [some ek] env).zip ((evalEach [ev] env).map fun v => do let x ← v; standAt pos; pure x) = ([(eval ek env, do let x ← eval ev env; standAt pos; pure x)] : List (Sem Value × Sem Value)).map fun p => (some p.1, p.2) := rfl
  rw [arm_eval_Dict, hshape, dictDisplay_pairs _ (by simp) (by simp)]
  refine wpAny_bind (wpAny_standAt (wpAny_bind ?_))
  unfold subDict
  refine wpAny_bind (wpAny_alloc ?_)
  refine wpAny_bind (wpAny_holding ?_)
  rw [if_pos (by simp)]
  refine wpAny_bind (evalPairs_cons ?_)
  have R0 := R.grown hk1
  have N0 := N.grown hk1
  refine hk lo H _ H1 h1 env A φ { s with heap := s.heap.push { cls := .type "dict", data := .dict #[] } } _ E S hA R0 N0 fun φ1 hp1 tk1 u R1 X1 z1 => ?_
  refine wpAny_bind (hv lo H1 y H2 h2 env A φ1 { s with heap := hp1, toks := tk1 } _ E S hA R1 (N0.ext X1) fun φ2 hp2 tk2 u2 R2 X2 z2 => ?_)
  refine wpAny_bind (wpAny_standAt (wpAny_pure (evalPairs_nil ?_)))
  cases z1
  have X := X1.trans X2
  have nD := R.notIn hD
  have hD2 : hp2.get? s.heap.objs.size = some { cls := .type "dict", data := .dict #[] } := X.keep _ _ hD1 nD (fun q => q)
  have nD2 := X.notIn nD (some_ne hD1)
  have hbD : c.h₀.get? s.heap.objs.size = none := by
    cases e : c.h₀.get? s.heap.objs.size with
    | none => rfl
    | some y => have := R.base _ _ e; rw [hD] at this; cases this
  refine wpAny_holding ?_
  rw [List.forIn_cons]
  have hm : hp2.IntMap s.heap.objs.size fun _ => none := ⟨_, #[], _, hD2, rfl, rfl, fun e he => by simp at he, fun k => rfl⟩
  refine wpAny_bind ?_
  dsimp only
  refine wpAny_bind (wpAny_bind (wpAny_dictSet_int_le (s := { s with heap := hp2, toks := tk2 }) (n := 0) hm (DictLe_at hD2 rfl (by simp)) (Nat.zero_le _) fun h' hm' hz' hs' => wpAny_pure ?_))
  dsimp only
  rw [List.forIn_nil]
  refine wpAny_pure (wpAny_pure (wpAny_pure (wpAny_pure ?_)))
  have R3 := R2.but nD2 hbD hs'.extBut
  have R4 := R3.adopt (o := .dict [(i, y)]) nD2 hbD (.dict hm' hz' fun k' v' hv' => by
    have hget : iget [(i, y)] k' = bif_ (ieq i k') (some y) Option.none := rfl
    rw [hget] at hv'
    cases e : ieq i k' with
    | false => rw [e] at hv'; cases hv'
    | true =>
      rw [e] at hv'
      cases hv'
      have := (ieq_iff i k').mp e
      exact ⟨u2, if_pos this.symm, z2.mono (R2.sub _)⟩)
  refine q _ h' _ _ R4 ?_ (.ref Phi.put_self)
  have X5 : Ext noX φ s.heap φ2 hp2 := (Ext.grown hk1).trans X
  exact (X5.thenBut hD hs'.extBut).adopt hD R2.fresh

/-! several names at once -/
theorem noSwapSole {v : Expr} (h : notComp v = true) (t : Expr) (l : Nat) (env : Env) : swapsWithSole [t] v l env = pure false := by
  unfold swapsWithSole
  exact noSwap h _ _ _
def notTup : Expr → Bool
  | .Tuple .. => false
  | _ => true
theorem stores_none {ts : List Expr} {k tpos} {v : Expr} (h : notTup v = true) (env : Env) : swappedStores [.Tuple ts k tpos] v env = pure none := by
  cases v <;> first | rfl | cases h
def twoOk (a b : Pos) (v1 v2 : Expr) : Bool := noStar [v1, v2] && (b.line == a.line) && !([v1, v2].all (foldedForSure 8)) && !([v1, v2].all (constantsAlone 8))
theorem stars2 {v1 v2 : Expr} (h : noStar [v1, v2] = true) : ([v1, v2].any fun | .Starred .. => true | _ => false) = false := by
  have h1 : ∀ {e : Expr} {es : List Expr}, noStar (e :: es) = true → (match e with | .Starred .. => true | _ => false) = false ∧ noStar es = true := fun {e es} h => by
    cases e <;> first | exact ⟨rfl, h⟩ | cases h
  obtain ⟨a, h⟩ := h1 h
  obtain ⟨b, _⟩ := h1 h
  rw [List.any_cons, List.any_cons, a, b]; rfl
theorem stores_two {a b : Str} {p1 p2 tpos pos2 : Pos} {k k2} {v1 v2 : Expr} (h : twoOk p1 p2 v1 v2 = true) (hab : (a == b) = false) {env : Env} (hf : env.scope.kind = .function) (ha : env.kindOf a = some .local) (hb : env.kindOf b = some .local) :
    swappedStores [.Tuple [.Name a p1, .Name b p2] k tpos] (.Tuple [v1, v2] k2 pos2) env = pure (some [a, b]) := by
  unfold twoOk at h
  simp only [Bool.and_eq_true, Bool.not_eq_true'] at h
  obtain ⟨⟨⟨h1, h2⟩, h3⟩, h4⟩ := h
  have hbk : env.blockKind = .function := by unfold Env.blockKind; rw [hf]; rfl
  have hba : (b == a) = false := by rw [← hab]; exact Bool.beq_comm
  have hs := stars2 h1
  have hl : (p1.line == p1.line) = true := by simp
  have hk : ((some NameKind.local : Option NameKind) == some .local) = true := by decide
  unfold swappedStores
  simp only [List.any_cons, List.any_nil, List.all_cons, List.all_nil] at hs h3 h4 ⊢
  simp only [List.length_cons, List.length_nil, hbk, List.filterMap_cons, List.filterMap_nil, ha, hb, h2, hl, hk, List.head?_cons, Option.map_some, Option.getD_some, Expr.pos]
  have he : ([a, b] : List Str).eraseDups = [a, b] := by simp [List.eraseDups_cons, hba]
  rw [if_neg (by decide), if_neg (by exact ne_true_of_eq_false hs), if_neg, if_neg (by rw [h3]; decide), if_neg (by rw [h4]; decide)]
  · rfl
  · show ¬ (([a, b] : List Str).length != 2 || ([a, b] : List Str).eraseDups.length != 2) = true
    rw [he]; simp
theorem stores_cell {a b : Str} {p1 p2 tpos pos2 : Pos} {k k2} {v1 v2 : Expr} (h : twoOk p1 p2 v1 v2 = true) {env : Env} (hf : env.scope.kind = .function) (hb : isCl (env.kindOf b)) :
    swappedStores [.Tuple [.Name a p1, .Name b p2] k tpos] (.Tuple [v1, v2] k2 pos2) env = pure none := by
  unfold twoOk at h
  simp only [Bool.and_eq_true, Bool.not_eq_true'] at h
  obtain ⟨⟨⟨h1, h2⟩, h3⟩, h4⟩ := h
  have hbk : env.blockKind = .function := by unfold Env.blockKind; rw [hf]; rfl
  have hs := stars2 h1
  have hl : (p1.line == p1.line) = true := by simp
  have hkb : (env.kindOf b == some .local) = false := by rcases hb with h | h <;> (rw [h]; decide)
  unfold swappedStores
  simp only [List.any_cons, List.any_nil, List.all_cons, List.all_nil] at hs h3 h4 ⊢
  simp only [List.length_cons, List.length_nil, hbk, List.filterMap_cons, List.filterMap_nil, hkb, h2, hl, List.head?_cons, Option.map_some, Option.getD_some, Expr.pos]
  rw [if_neg (by decide), if_neg (by exact ne_true_of_eq_false hs), if_pos]
  cases (env.kindOf a == some .local) <;> rfl

theorem EnvR.same {env : Env} {φ : Phi} {lo lo' : Lo} {h : Heap} (r : EnvR c env φ lo h) (e : ∀ p, TrV.get lo p = TrV.get lo' p) : EnvR c env φ lo' h :=
  ⟨r.kind, r.glob, r.bi, let ⟨m, a, b⟩ := r.loc; ⟨m, a, fun p x v hn hv => b p x v hn ((e p).trans hv)⟩, fun p x v hn hv => r.cel p x v hn ((e p).trans hv), r.own, r.all, r.inj, r.apart⟩

theorem snd_asgT (O : CxOk c) {ps : List Pn} {ts : List Expr} {e : Ex} {ee : Expr} {k tpos pos} (ht : Tgs c sc ps ts) (hc : notComp ee = true) (hw : ∀ env, ScOk sc env → env.scope.kind = .function → swappedStores [.Tuple ts k tpos] ee env = pure none) (h : SndE c r sc e ee) :
    SndS c r sc (s_asgT ps e) (.Assign [.Tuple ts k tpos] ee pos) := by
  intro lo H f lo' H' hx env A φ s Q E S hA R N q
  obtain ⟨v, H1, h1, hx⟩ := bindS_ok hx
  obtain ⟨lo1, h2, hx⟩ := optS_ok hx
  cases hx
  refine Assign_Tuple (h lo H v _ h1 env A φ s _ E S hA R N fun φ1 hp1 tk1 y R1 X1 z1 => ?_) (noSwapSole hc _ _ _) (hw env S N.kind)
  exact assign_R O S hA (.many ht) h2 R1 (N.ext X1) z1 fun h' tk R2 X2 N2 => q φ1 h' tk _ R2 (X1.of_no.trans X2) N2 .next

theorem snd_asgT_swap (O : CxOk c) {p1 p2 : Pn} {x1 x2 : Str} {q1 q2 : Pos} {e : Ex} {ee : Expr} {k tpos pos} (hn1 : c.nm p1 x1) (hn2 : c.nm p2 x2) (hs1 : sc.names.lookup x1 = some .local) (hs2 : sc.names.lookup x2 = some .local) (hne : p1 ≠ p2) (hc : notComp ee = true)
    (hw : ∀ env, env.scope.kind = .function → env.kindOf x1 = some .local → env.kindOf x2 = some .local → swappedStores [.Tuple [.Name x1 q1, .Name x2 q2] k tpos] ee env = pure (some [x1, x2])) (h : SndE c r sc e ee) :
    SndS c r sc (s_asgT [p1, p2] e) (.Assign [.Tuple [.Name x1 q1, .Name x2 q2] k tpos] ee pos) := by
  intro lo H f lo' H' hx env A φ s Q E S hA R N q
  obtain ⟨v, H1, h1, hx⟩ := bindS_ok hx
  obtain ⟨lo1, h2, hx⟩ := optS_ok hx
  cases hx
  have k1 : env.kindOf x1 = some .local := S _ _ hs1
  have k2 : env.kindOf x2 = some .local := S _ _ hs2
  refine Assign_Tuple_swapped (names := [x1, x2]) (h lo H v _ h1 env A φ s _ E S hA R N fun φ1 hp1 tk1 y R1 X1 z1 => ?_) (noSwapSole hc _ _ _) (hw env N.kind k1 k2)
  obtain ⟨n, e1, h3⟩ := asRef_ok h2
  subst e1
  obtain ⟨o, g1, h4⟩ := opt1_ok h3
  obtain ⟨vs, e1, h5⟩ := asTup_ok h4
  subst e1
  clear h2 h3 h4 hx
  have hlen := asgN_len h5
  cases z1 with
  | @ref n0 a e2 =>
    obtain ⟨a2, e', w1⟩ := R1.rel _ _ g1
    rw [e2] at e'
    cases e'
    cases w1 with
    | @tup vs its hl hr =>
      have hz := hr.length
      rw [Array.length_toList] at hz
      have e3 : ([x1, x2] : List Str).length = its.size := by rw [hz, hlen]; rfl
      rw [e3]
      refine unpackItems_tuple hA.1 hl fun h' hx' => ?_
      have hk : ∀ b o, hp1.get? b = some o → h'.get? b = some o := fun b o e => hx' b o (Nat.ne_of_lt (Heap.lt_size e)) e
      match vs, hr, h5 with
      | [v1, v2], hr, h5 =>
        cases h5
        generalize hI : its.toList = I at hr
        cases hr with
        | @cons _ y1 _ _ r1 hr =>
          cases hr with
          | @cons _ y2 _ _ r2 hr =>
            cases hr
            show wpAny _ _ (assignInOrder [fun v => bindName env x2 v, fun v => bindName env x1 v] [y2, y1]) _ _ _
            refine wpAny_assignInOrder_more (bindName_ (store_R O hn2 (.inl k2) (s := { s with heap := h', toks := tk1 }) (R1.grown hk) ((N.ext X1).grown hk) r2 fun h3 tk3 R3 X3 N3 => ?_))
            refine wpAny_assignInOrder_more (bindName_ (store_R O hn1 (.inl k1) (s := { s with heap := h3, toks := tk3 }) R3 N3 r1 fun h4 tk4 R4 X4 N4 => ?_))
            refine wpAny_assignInOrder_none (q φ1 h4 tk4 _ R4 (X1.of_no.trans ((Ext.grown hk).trans (X3.trans X4))) (N4.same fun p => ?_) .next)
            by_cases d1 : p = p1
            · subst d1
              rw [TrV.get_set_self, TrV.get_set_ne _ _ _ _ (Ne.symm hne), TrV.get_set_self]
            · by_cases d2 : p = p2
              · subst d2
                rw [TrV.get_set_self, TrV.get_set_ne _ _ _ _ (Ne.symm d1), TrV.get_set_self]
              · rw [TrV.get_set_ne _ _ _ _ (Ne.symm d1), TrV.get_set_ne _ _ _ _ (Ne.symm d2), TrV.get_set_ne _ _ _ _ (Ne.symm d2), TrV.get_set_ne _ _ _ _ (Ne.symm d1)]
      | [], _, _ => cases hlen
      | [_], _, _ => cases hlen
      | _ :: _ :: _ :: _, _, _ => cases hlen
end
end Mine

namespace Mine
open PySem PySem.SeqAt PySem.W PySem.Calls PyProof.Rows

theorem Ext.drop {X : Addr → Prop} {φ φ' : Phi} {h h₀ h' : Heap} (x : Ext X φ h₀ φ' h') (hk : ∀ b o, h.get? b = some o → h₀.get? b = some o) (hX : ∀ b, X b → h.get? b = none) : Ext noX φ h φ' h' :=
  ⟨x.sub, fun n a e => (x.new n a e).imp_right fun l => (by
      cases q : h.get? a with
      | none => rfl
      | some o => rw [hk a o q] at l; cases l),
    fun b e => x.live b (live_of hk b e), fun b o e hn _ => x.keep b o (hk b o e) hn fun q => by rw [hX b q] at e; cases e⟩

def parNames (fd : FuncData) : List Str := fd.params.args.map (·.arg)
def noDup : List Str → Bool
  | [] => true
  | x :: r => !(r.any fun y => y == x) && noDup r
def okFd (fd : FuncData) : Bool :=
  fd.params.posonlyargs.isEmpty && fd.params.kwonlyargs.isEmpty && fd.params.vararg.isNone && fd.params.kwarg.isNone && (match fd.defaults with | .none => true | _ => false) && noDup (parNames fd)
theorem noDup_lookup : ∀ {xs : List Str} {ys : List Value} {z : List (Str × Value)}, noDup xs = true → ys.length = xs.length → (∀ x ∈ xs, z.lookup x = none) →
    (xs.filterMap fun n => (List.lookup n (z ++ xs.zip ys)).map fun v => (n, v)) = xs.zip ys
  | [], [], _, _, _, _ => rfl
  | [], _ :: _, _, _, h, _ => by cases h
  | _ :: _, [], _, _, h, _ => by cases h
  | x :: xs, y :: ys, z, hd, hl, hz => by
    unfold noDup at hd
    simp only [Bool.and_eq_true, Bool.not_eq_true'] at hd
    have h1 : List.lookup x (z ++ (x, y) :: xs.zip ys) = some y := by
      rw [List.lookup_append, hz x List.mem_cons_self]
      simp [List.lookup_cons]
    rw [List.zip_cons_cons, List.filterMap_cons, h1]
    have e : z ++ (x, y) :: xs.zip ys = (z ++ [(x, y)]) ++ xs.zip ys := by simp
    rw [e]
    dsimp only [Option.map_some]
    rw [noDup_lookup (xs := xs) (ys := ys) (z := z ++ [(x, y)]) hd.2 (by simpa using hl) fun x' hx' => by
      rw [List.lookup_append, hz x' (.tail _ hx')]
      have : (x' == x) = false := by
        have := List.any_eq_false.mp hd.1 x' hx'
        simpa using this
      simp [List.lookup_cons, this]]
theorem noDup_missing : ∀ {xs : List Str} {ys : List Value} {z : List (Str × Value)}, noDup xs = true → ys.length = xs.length →
    (xs.filter fun n => (List.lookup n (z ++ xs.zip ys)).isNone) = []
  | [], [], _, _, _ => rfl
  | [], _ :: _, _, _, h => by cases h
  | _ :: _, [], _, _, h => by cases h
  | x :: xs, y :: ys, z, hd, hl => by
    unfold noDup at hd
    simp only [Bool.and_eq_true, Bool.not_eq_true'] at hd
    have h1 : (List.lookup x (z ++ (x, y) :: xs.zip ys)).isNone = false := by
      rw [List.lookup_append]
      cases List.lookup x z <;> simp [List.lookup_cons]
    rw [List.zip_cons_cons, List.filter_cons, h1]
    have e : z ++ (x, y) :: xs.zip ys = (z ++ [(x, y)]) ++ xs.zip ys := by simp
    rw [e, if_neg (by decide)]
    exact noDup_missing (z := z ++ [(x, y)]) hd.2 (by simpa using hl)
theorem bind_plain {fd : FuncData} {ys : List Value} (h : okFd fd = true) (hl : ys.length = (parNames fd).length) : bindArgs fd ⟨ys, []⟩ = pure ((parNames fd).zip ys) := by
  unfold okFd at h
  simp only [Bool.and_eq_true, List.isEmpty_iff, Option.isNone_iff_eq_none] at h
  obtain ⟨⟨⟨⟨⟨h1, h2⟩, h3⟩, h4⟩, h5⟩, h6⟩ := h
  have hd : fd.defaults = .none := by
    cases q : fd.defaults <;> first | rfl | (rw [q] at h5; cases h5)
  have hp : fd.params.args.map (·.arg) = parNames fd := rfl
  have m1 := noDup_missing (z := []) h6 hl
  have m2 := noDup_lookup (z := []) h6 hl (fun _ _ => rfl)
  rw [List.nil_append] at m1 m2
  have sq : seqItems? Value.none = pure Option.none := rfl
  unfold bindArgs
  simp only [h1, h2, h3, h4, hd, hp, List.map_nil, List.nil_append, List.append_nil, List.forIn_nil, pure_bind, sq, Option.getD_none, List.length_nil, Nat.zero_sub, List.drop_nil, Nat.sub_zero, List.take_length, List.zip_nil_right]
  have e1 : (decide (ys.length > (parNames fd).length) && (Option.none : Option Arg).isNone) = false := by
    rw [hl]; simp
  rw [e1, if_neg (by decide)]
  simp only [m1, m2, List.isEmpty_nil, Bool.not_true, Bool.false_eq_true, if_false, pure_bind]

structure FnAt (K : Frag) (fa : Addr) (fd : FuncData) (body : List Stmt) : Prop where
  look : ∃ oc od osl, K.lookup fa = some ⟨oc, od, .func fd, osl⟩
  code : codeIn K fd.code fd.qualname = true
  body : fd.body = .stmts body
  glob : fd.globals = mainGlobals
  bi : fd.builtins = builtinsNs
  clo : fd.closure = []
  kind : fd.scope.kind = .function
  co : fd.scope.isCoroutine = false
  gen : fd.scope.isGenerator = false
  noCell : ∀ x ∈ fd.scope.names, x.2 ≠ .cell ∧ x.2 ≠ .free
  par : okFd fd = true
  loc : ∀ x ∈ parNames fd, fd.scope.names.lookup x = some .local

section
variable {c : Cx} {r : Nat} {sc : Scope}

/-- a function of the machine is the program's function at that address -/
def FnSnd (c : Cx) (r : Nat) (f : Fn) (fa : Addr) : Prop := ∀ vs H v H', runF f vs H = .ok v H' → ∀ (A : Around) (φ : Phi) (s : Shared) (ys : List Value) (T : Result → Shared → Prop),
  Rm r A → SR c φ H s.heap → All2 (VR c φ) vs ys → (∀ φ' h' tk y, SR c φ' H' h' → Ext noX φ s.heap φ' h' → VR c φ' v y → T (.ok (.ret y)) { s with heap := h', toks := tk }) →
  codeAny (model c.prog c.w) A (.call (.ref fa) ⟨ys, []⟩) T s

theorem asg_lookup {φ : Phi} : ∀ {ps : List Pn} {xs : List Str} {vs : List V} {ys : List Value} {lo lo' : Lo}, All2 c.nm ps xs → asgN ps vs lo = some lo' → All2 (VR c φ) vs ys → (O : CxOk c) → ∀ p x v, c.nm p x → TrV.get lo' p = some v →
    (∃ y, (xs.zip ys).reverse.lookup x = some y ∧ VR c φ v y) ∨ ((xs.zip ys).reverse.lookup x = none ∧ TrV.get lo p = some v)
  | [], [], vs, ys, lo, lo', .nil, h, z, O, p, x, v, hn, hv => by
    have := asgN_len h
    cases vs with
    | cons => cases this
    | nil => cases z; cases h; exact .inr ⟨rfl, hv⟩
  | q :: ps, x1 :: xs, vs, ys, lo, lo', .cons hn1 hr, h, z, O, p, x, v, hn, hv => by
    cases vs with
    | nil => cases h
    | cons v1 vs =>
      cases z with
      | @cons _ y1 _ ys z1 z2 =>
        have ih := asg_lookup (lo := TrV.set lo q v1) (lo' := lo') hr h z2 O p x v hn hv
        rw [List.zip_cons_cons, List.reverse_cons, List.lookup_append]
        rcases ih with ⟨y, e1, e2⟩ | ⟨e1, e2⟩
        · exact .inl ⟨y, by rw [e1]; rfl, e2⟩
        · rw [e1]
          by_cases e : p = q
          · subst e
            have e3 : x = x1 := O.nmFun _ _ _ hn hn1
            subst e3
            rw [TrV.get_set_self] at e2
            cases e2
            exact .inl ⟨y1, by simp, z1⟩
          · rw [TrV.get_set_ne _ _ _ _ (Ne.symm e)] at e2
            have e3 : (x == x1) = false := by
              cases q1 : x == x1 with
              | false => rfl
              | true => exact absurd (O.nmInj _ _ _ hn (by rw [beq_iff_eq.mp q1]; exact hn1)) e
            exact .inr ⟨by simp [List.lookup_cons, e3], e2⟩

theorem fn_snd (O : CxOk c) {f : Fn} {fa : Addr} {fd : FuncData} {body : List Stmt} (F : FnAt c.K fa fd body) (hp : All2 c.nm f.ps (parNames fd)) (hb : SndSS c r fd.scope f.body body) : FnSnd c (r + 1) f fa := by
  intro vs H v H' hx A φ s ys T hA R z q
  obtain ⟨lo, h1, hx⟩ := opt_ok hx
  obtain ⟨fl, lo2, H2, h2, hx⟩ := rbindR_ok hx
  obtain ⟨oc, od, osl, look⟩ := F.look
  have X : c.K.In s.heap := O.K.keeps R.base
  have hlen : ys.length = (parNames fd).length := by rw [z.length, asgN_len h1, hp.length]
  have hbinds : ∀ x ∈ (parNames fd).zip ys, fd.scope.names.lookup x.1 = some .local := fun x hx => F.loc _ (List.of_mem_zip hx).1
  refine codeAny_call_def (fd := fd) (body := body) (binds := (parNames fd).zip ys) (by have := hA.2.1; rw [show recursionLimit = 1000 from rfl]; omega) (X _ _ look) rfl (O.lim.keeps R.base) (codeRec_of X F.code) F.body (.of_eq (bind_plain F.par hlen)) (fun x hx => (F.noCell x hx).1) hbinds (fun h₀ hns hk₀ => ?_) F.co F.gen F.kind
  have hL := get_size s.heap
  have noCl : ∀ x, ¬ isCl ((callEnv fd s.heap.objs.size fa).kindOf x) := fun x hc => by
    have e : (callEnv fd s.heap.objs.size fa).kindOf x = fd.scope.names.lookup x := rfl
    rw [e] at hc
    rcases hc with hc | hc
    · obtain ⟨l₁, l₂, e2, _⟩ := List.lookup_eq_some_iff.mp hc
      exact (F.noCell (x, .cell) (by rw [e2]; simp)).1 rfl
    · obtain ⟨l₁, l₂, e2, _⟩ := List.lookup_eq_some_iff.mp hc
      exact (F.noCell (x, .free) (by rw [e2]; simp)).2 rfl
  have noCells : ∀ x a, ((callEnv fd s.heap.objs.size fa).cells.lookup x = some a) → False := fun x a e => by
    have e2 : (callEnv fd s.heap.objs.size fa).cells = fd.closure := rfl
    rw [e2, F.clo] at e
    cases e
  have lv : h₀.get? s.heap.objs.size ≠ none := by obtain ⟨o, es, ep, e, _⟩ := hns; exact some_ne e
  have hbD : c.h₀.get? s.heap.objs.size = none := by
    cases e : c.h₀.get? s.heap.objs.size with
    | none => rfl
    | some y => have := R.base _ _ e; rw [hL] at this; cases this
  have N : EnvR c (callEnv fd s.heap.objs.size fa) φ lo h₀ := by
    refine ⟨F.kind, F.glob, F.bi, ⟨_, hns, fun p x v hn hv _ => ?_⟩, fun p x v _ _ hc => absurd hc (noCl x), fun b ob => ?_, fun x hc => absurd hc (noCl x), fun x y a e _ => (noCells x a e).elim, fun x a e => (noCells x a e).elim⟩
    · rcases asg_lookup hp h1 z O p x v hn hv with h | ⟨_, h⟩
      · exact h
      · rw [TrV.get_nil] at h; cases h
    · rcases ob with e | ⟨x, e⟩
      · subst e; exact ⟨R.notIn hL, hbD, lv⟩
      · exact (noCells x b e).elim
  have S : ScOk fd.scope (callEnv fd s.heap.objs.size fa) := fun x k hk => by
    have e : (callEnv fd s.heap.objs.size fa).kindOf x = some k := hk
    cases k <;> first | exact e | exact trivial | exact .inl e | exact .inr e
  have hA' : Rm r (A.deeper (callEnv fd s.heap.objs.size fa)) := ⟨hA.1, by have := hA.2.1; show A.depth + 1 + 4 * r < 900; omega, by have := hA.2.2; show A.units + 3 + 16 * r + 100 < cLine; omega⟩
  refine hb lo H fl lo2 H2 h2 _ _ φ { s with heap := h₀, toks := _ } _ _ S hA' (R.grown hk₀) N fun φ' h' tk g R' X' N' zf => ?_
  have hfresh : ∀ b, ownX (callEnv fd s.heap.objs.size fa) b → s.heap.get? b = none := fun b ob => by
    rcases ob with e | ⟨x, e⟩
    · subst e; exact hL
    · exact (noCells x b e).elim
  cases zf with
  | next => cases hx; exact q φ' h' tk _ R' (X'.drop hk₀ hfresh) .none
  | cont => cases hx
  | ret zz => cases hx; exact q φ' h' tk _ R' (X'.drop hk₀ hfresh) zz

theorem call_R {f : Fn} {fa : Addr} (hf : FnSnd c r f fa) {vs : List V} {H H' : Hp} {v : V} (hx : runF f vs H = .ok v H') {A : Around} {φ : Phi} {s : Shared} {ys : List Value} {Q : Value → Shared → Prop} {E : Value → Shared → Prop} (hA : Rm r A) (R : SR c φ H s.heap) (z : All2 (VR c φ) vs ys)
    (q : ∀ φ' h' tk y, SR c φ' H' h' → Ext noX φ s.heap φ' h' → VR c φ' v y → Q y { s with heap := h', toks := tk }) : wpAny (model c.prog c.w) A (call (.ref fa) ys) Q E s :=
  wpAny_call (hf vs H v H' hx A φ s ys _ hA R z q)

theorem snd_call (O : CxOk c) {f : Fn} {fa : Addr} {g : Str} {ts : Lx} {e : Expr} {es : List Expr} {p pos : Pos} (hf : FnSnd c r f fa) (hk : keepIn c.K (.ref fa) = true) (hg : c.mg g = some (.ref fa)) (hd : (g == Str.ofString "__debug__") = false) (hs : noStar (e :: es) = true) (hsc : sc.names.lookup g = some .globalImplicit) (h : SndL c r sc ts (e :: es)) :
    SndE c r sc (e_call f ts) (.Call (.Name g p) (e :: es) [] pos) := by
  intro lo H v H' hx env A φ s Q E S hA R N q
  obtain ⟨vs, H1, h1, hx⟩ := bind_ok hx
  refine wpAny_Call_NameR (wpAny_Name (loadGlobal_R O (S _ _ hsc) hg R N ?_) hd)
  refine args_R (P := c.K.In) hs h h1 (keeps_K hk) S hA R N fun φ1 hp1 tk1 ys R1 X1 z1 => ⟨O.K.keeps R1.base, ?_⟩
  exact call_R hf hx hA R1 z1 fun φ' h' tk y R' X' z => q φ' h' tk y R' (X1.trans X') z

/-! an object of a class -/
theorem under_tc (A : Around) (C : Addr) (vals : List Value) : (A.under (.builtin "type.__call__" ⟨.ref C :: vals, []⟩)).handled = A.handled ∧ (A.under (.builtin "type.__call__" ⟨.ref C :: vals, []⟩)).depth = A.depth + 1 ∧ (A.under (.builtin "type.__call__" ⟨.ref C :: vals, []⟩)).units = A.units + 1 := ⟨rfl, rfl, rfl⟩
theorem snd_mk (O : CxOk c) {f : Fn} {k : Nat} {fi : Addr} {g : Str} {ts : Lx} {e : Expr} {es : List Expr} {p pos : Pos} (hk3 : k < 3) (hf : FnSnd c r f fi) (hk : keepIn c.K (.ref (c.ca k)) = true) (hg : c.mg g = some (.ref (c.ca k))) (hd : (g == Str.ofString "__debug__") = false)
    (hi : findIn c.K (.ref (c.ca k)) "__init__" = some (some (.ref fi))) (hfi : typeIn c.K (.ref fi) = some (.type "function")) (hs : noStar (e :: es) = true) (hsc : sc.names.lookup g = some .globalImplicit) (h : SndL c (r + 2) sc ts (e :: es)) :
    SndE c (r + 2) sc (e_mk k f ts) (.Call (.Name g p) (e :: es) [] pos) := by
  intro lo H v H' hx env A φ s Q E S hA R N q
  obtain ⟨vs, H1, h1, hx⟩ := bind_ok hx
  obtain ⟨v2, H2, h2, hx⟩ := bind_ok hx
  cases h2
  obtain ⟨v3, H3, h3, hx⟩ := bind_ok hx
  cases h3
  obtain ⟨rr, H4, h4, hx⟩ := bind_ok hx
  refine wpAny_Call_NameR (wpAny_Name (loadGlobal_R O (S _ _ hsc) hg R N ?_) hd)
  refine args_R (P := c.K.In) hs h h1 (keeps_K hk) S hA R N fun φ1 hp1 tk1 ys R1 X1 z1 => ⟨O.K.keeps R1.base, ?_⟩
  have X : c.K.In hp1 := O.K.keeps R1.base
  refine wpAny_call (make_core (C := c.ca k) (makes_of X (O.makes k hk3)) (looks_findIn X hi) (fun self => bind_fn X self hfi) (.inl rfl) ?_)
  obtain ⟨R2, X2⟩ := R1.push (x := emptyDict) (o := .ns 0 .nil) rfl (.ns (m := fun _ => none) ⟨_, #[], _, Heap.get?_push_size _ rfl, rfl, fun e he => by simp at he, fun k => rfl⟩ (DictLe_at (Heap.get?_push_size _ rfl) rfl (by simp)) fun p x v _ hv => by rw [TrV.get_nil] at hv; cases hv)
  obtain ⟨R3, X3⟩ := R2.push (x := instObj (c.ca k) hp1.objs.size) (o := .inst k H1.next) rfl (.inst hk3 (R2.sub _ _ _ Phi.put_self) (Heap.get?_push_size _ rfl))
  obtain ⟨u1, u2, u3⟩ := under_tc A (c.ca k) ys
  refine hf _ _ _ _ h4 (A.under _) _ { s with heap := (hp1.push emptyDict).push (instObj (c.ca k) hp1.objs.size), toks := tk1 } _ _ ⟨u1.trans hA.1, ?_, ?_⟩ R3 (.cons ?_ (z1.mono fun _ _ => VR.mono fun n a e => X3.sub _ _ (X2.sub _ _ e))) fun φ' h' tk y R' X' zy => ?_
  · have := hA.2.1; omega
  · have := hA.2.2; omega
  · have e : (hp1.push emptyDict).objs.size = hp1.objs.size + 1 := Heap.size_push ..
    rw [← e]
    exact .ref Phi.put_self
  · cases rr with
    | none =>
      cases hx
      cases zy
      refine ⟨rfl, ?_⟩
      refine q φ' h' tk _ R' (X1.trans (X2.trans (X3.trans X'))) (.ref (X'.sub _ _ ?_))
      have e : (hp1.push emptyDict).objs.size = hp1.objs.size + 1 := Heap.size_push ..
      rw [← e]
      exact Phi.put_self
    | _ => cases hx
end
end Mine

namespace Mine
open PySem PySem.SeqAt PySem.W PySem.Calls PyProof.Rows

section
variable {c : Cx} {r : Nat} {sc : Scope}

theorem EnvR.extX {X : Addr → Prop} {env : Env} {φ φ' : Phi} {lo : Lo} {h h' : Heap} (r : EnvR c env φ lo h) (x : Ext X φ h φ' h') (hX : ∀ b, ownX env b → ¬ X b) : EnvR c env φ' lo h' := by
  have st : ∀ b o, ownX env b → h.get? b = some o → h'.get? b = some o := fun b o ob e => x.keep b o e (r.own b ob).1 (hX b ob)
  refine ⟨r.kind, r.glob, r.bi, ?_, fun p y v hn hv hk => ?_, fun b ob => ?_, fun y hk => ?_, r.inj, r.apart⟩
  · obtain ⟨m, ⟨o, es, ep, e, q⟩, s⟩ := r.loc
    exact ⟨m, ⟨o, es, ep, st _ _ (.inl rfl) e, q⟩, fun p y v hn hv hk => let ⟨z, a, b⟩ := s p y v hn hv hk; ⟨z, a, b.mono x.sub⟩⟩
  · obtain ⟨a, z, e, ⟨o, ho, hd⟩, s⟩ := r.cel p y v hn hv hk
    exact ⟨a, z, e, ⟨o, st _ _ (.inr ⟨y, e⟩) ho, hd⟩, s.mono x.sub⟩
  · obtain ⟨p, q, s⟩ := r.own b ob
    exact ⟨fun n e => (x.new n b e).elim (p n) fun l => s l, q, x.live b s⟩
  · obtain ⟨a, v, e, ⟨o, ho, hd⟩⟩ := r.all y hk
    exact ⟨a, v, e, o, st _ _ (.inr ⟨y, e⟩) ho, hd⟩
theorem Ext.dropTo {X Y : Addr → Prop} {φ φ' : Phi} {h h₀ h' : Heap} (x : Ext X φ h₀ φ' h') (hk : ∀ b o, h.get? b = some o → h₀.get? b = some o) (hX : ∀ b, X b → Y b ∨ h.get? b = none) : Ext Y φ h φ' h' :=
  ⟨x.sub, fun n a e => (x.new n a e).imp_right fun l => (by
      cases q : h.get? a with
      | none => rfl
      | some o => rw [hk a o q] at l; cases l),
    fun b e => x.live b (live_of hk b e), fun b o e hn hY => x.keep b o (hk b o e) hn fun q => (hX b q).elim hY fun q => by rw [q] at e; cases e⟩

/-- one turn: the name bound, the body run -/
theorem turn_R (O : CxOk c) {env : Env} (S : ScOk sc env) {A : Around} (hA : Rm r A) {tg : Tg} {t : Expr} (ht : TgOk c sc tg t) {ss : Sx} {body : List Stmt} (hb : SndSS c r sc ss body) {k : Lo → Hp → RS} {v : V} {lo lo1 lo' : Lo} {H H' : Hp} {f : Fl}
    (h1 : bindT tg v lo H = some lo1) (h2 : onward (ss lo1 H) k = .ok f lo' H') {it y : Value} {φ : Phi} {s : Shared} {T : Result → Shared → Prop} {E1 E2 E3 : Value → Shared → Prop} {C : Shared → Prop} (R : SR c φ H s.heap) (N : EnvR c env φ lo s.heap) (z : VR c φ v y)
    (hgo : ∀ Q : Unit → Shared → Prop, Q () s → wpAny (model c.prog c.w) A (letOwnedTupleGo t it y) Q E1 s)
    (hc : ∀ φ' h' tk l H1, k l H1 = .ok f lo' H' → SR c φ' H1 h' → EnvR c env φ' l h' → Ext (ownX env) φ s.heap φ' h' → C { s with heap := h', toks := tk })
    (hr : ∀ φ' h' tk v y, f = .ret v → SR c φ' H' h' → EnvR c env φ' lo' h' → Ext (ownX env) φ s.heap φ' h' → VR c φ' v y → T (.ok (.ret y)) { s with heap := h', toks := tk }) :
    wpAny (model c.prog c.w) A (letOwnedTupleGo t it y) (fun _ s1 => wpAny (model c.prog c.w) A (assign t env y) (fun _ s2 => wpAny (model c.prog c.w) A (execs body env) (fun fl s3 => match fl with
      | .next | .cont => C s3
      | .brk => T (.ok .next) s3
      | .ret v => T (.ok (.ret v)) s3) E3 s2) E2 s1) E1 s := by
  refine hgo _ ?_
  refine assign_R O S hA ht h1 R N z fun h₁ tk1 R1 X1 N1 => ?_
  obtain ⟨g, l, H1, h3, h4⟩ := onward_ok h2
  refine hb lo1 H g l H1 h3 env A φ { s with heap := h₁, toks := tk1 } _ E3 S hA R1 N1 fun φ2 h₂ tk2 g2 R2 X2 N2 z2 => ?_
  rcases h4 with ⟨v, e1, e2, e3, e4⟩ | ⟨h4, h5⟩
  · subst e1 e3 e4
    cases z2 with
    | ret zz => exact hr φ2 h₂ tk2 v _ e2 R2 N2 (X1.trans X2) zz
  · rcases h4 with e | e <;> (subst e; cases z2; exact hc φ2 h₂ tk2 l H1 h5 R2 N2 (X1.trans X2))

theorem EnvR.but {env : Env} {φ : Phi} {lo : Lo} {h h' : Heap} {L : Addr} (r : EnvR c env φ lo h) (ho : ¬ ownX env L) (hs : Heap.ExtBut L h h') : EnvR c env φ lo h' := by
  have st : ∀ b o, ownX env b → h.get? b = some o → h'.get? b = some o := fun b o ob e => hs b o (fun q => ho (q ▸ ob)) e
  refine ⟨r.kind, r.glob, r.bi, ?_, fun p y v hn hv hk => ?_, fun b ob => ?_, fun y hk => ?_, r.inj, r.apart⟩
  · obtain ⟨m, ⟨o, es, ep, e, q⟩, s⟩ := r.loc
    exact ⟨m, ⟨o, es, ep, st _ _ (.inl rfl) e, q⟩, s⟩
  · obtain ⟨a, z, e, ⟨o, ho, hd⟩, s⟩ := r.cel p y v hn hv hk
    exact ⟨a, z, e, ⟨o, st _ _ (.inr ⟨y, e⟩) ho, hd⟩, s⟩
  · obtain ⟨p, q, s⟩ := r.own b ob
    obtain ⟨o, e⟩ := ne_some s
    exact ⟨p, q, some_ne (st b o ob e)⟩
  · obtain ⟨a, v, e, ⟨o, ho, hd⟩⟩ := r.all y hk
    exact ⟨a, v, e, o, st _ _ (.inr ⟨y, e⟩) ho, hd⟩

/-- the source's iterator: none of the machine's, none of the frame's, not there at the start -/
structure ItOk (c : Cx) (env : Env) (hB : Heap) (it : Addr) : Prop where
  base : c.h₀.get? it = none
  own : ¬ ownX env it
  new : hB.get? it = none

/-- a source is walked -/
structure Walk (c : Cx) (env : Env) (s₀ : Shared) (it : Addr) (P : Heap → Prop) (φ₀ φ : Phi) (lo : Lo) (H : Hp) (s : Shared) : Prop where
  st : ∃ h tk, s = { s₀ with heap := h, toks := tk }
  sr : SR c φ H s.heap
  en : EnvR c env φ lo s.heap
  at_ : P s.heap
  no : ∀ n, φ n ≠ some it
  ext : Ext (ownX env) φ₀ s₀.heap φ s.heap
  there : s.heap.get? it ≠ none

section
variable {env : Env} {s₀ s : Shared} {it : Addr} {P P' : Heap → Prop} {φ₀ φ φ' : Phi} {lo lo' : Lo} {H H' : Hp} {h' : Heap} {tk : Nat}
theorem Walk.next (w : Walk c env s₀ it P φ₀ φ lo H s) (I : ItOk c env s₀.heap it) (hs : Heap.ExtBut it s.heap h') (hl : h'.get? it ≠ none) (hp : P' h') : Walk c env s₀ it P' φ₀ φ lo H { s with heap := h', toks := tk } := by
  obtain ⟨h, t, e⟩ := w.st
  exact ⟨⟨h', tk, by subst e; rfl⟩, w.sr.but w.no I.base hs, w.en.but I.own hs, hp, w.no, w.ext.thenBut I.new hs, hl⟩
theorem Walk.body (w : Walk c env s₀ it P φ₀ φ lo H s) (I : ItOk c env s₀.heap it) (R : SR c φ' H' h') (N : EnvR c env φ' lo' h') (x : Ext (ownX env) φ s.heap φ' h') (hp : ∀ o, s.heap.get? it = some o → h'.get? it = some o → P' h') : Walk c env s₀ it P' φ₀ φ' lo' H' { s with heap := h', toks := tk } := by
  obtain ⟨h, t, e⟩ := w.st
  obtain ⟨o, q⟩ := ne_some w.there
  exact ⟨⟨h', tk, by subst e; rfl⟩, R, N, hp o q (x.keep it o q w.no I.own), x.notIn w.no w.there, w.ext.trans x, x.live it w.there⟩
end

/-- what a loop ends with -/
def LoopEnd (c : Cx) (env : Env) (s₀ : Shared) (φ₀ : Phi) (f : Fl) (lo' : Lo) (H' : Hp) (T : Result → Shared → Prop) : Prop :=
  ∀ φ' h' tk g, SR c φ' H' h' → EnvR c env φ' lo' h' → Ext (ownX env) φ₀ s₀.heap φ' h' → FR c φ' f g → T (.ok g) { s₀ with heap := h', toks := tk }
theorem Walk.end {env : Env} {s₀ s : Shared} {it : Addr} {P : Heap → Prop} {φ₀ φ : Phi} {lo' : Lo} {H' : Hp} {h' : Heap} {T : Result → Shared → Prop} (w : Walk c env s₀ it P φ₀ φ lo' H' s) (I : ItOk c env s₀.heap it) (hs : Heap.ExtBut it s.heap h') (q : LoopEnd c env s₀ φ₀ .next lo' H' T) :
    T (.ok .next) { s with heap := h' } := by
  obtain ⟨h, t, e⟩ := w.st
  have := q φ h' s.toks .next (w.sr.but w.no I.base hs) (w.en.but I.own hs) (w.ext.thenBut I.new hs) .next
  subst e
  exact this

theorem for_range (O : CxOk c) {env : Env} (S : ScOk sc env) {A : Around} (hA : Rm r A) {tg : Tg} {t : Expr} (ht : TgOk c sc tg t) {ss : Sx} {body : List Stmt} (hb : SndSS c r sc ss body) {d : Int} {it : Addr} {s₀ : Shared} {φ₀ : Phi} {f : Fl} {lo' : Lo} {H' : Hp} {T : Result → Shared → Prop}
    (I : ItOk c env s₀.heap it) (q : LoopEnd c env s₀ φ₀ f lo' H' T) {n : Nat} {i : Int} {lo : Lo} {H : Hp} {φ : Phi} {s : Shared} (hx : forR tg ss d n i lo H = .ok f lo' H') (w : Walk c env s₀ it (fun h => ∃ left : Int, left.toNat = n ∧ IsRangeIter h it i left d) φ₀ φ lo H s) :
    codeAny (model c.prog c.w) A (.forLoop t (.ref it) body [] env) T s := by
  refine codeAny_forLoop_any (fun n s => ∃ i lo H φ, forR tg ss d n i lo H = .ok f lo' H' ∧ Walk c env s₀ it (fun h => ∃ left : Int, left.toNat = n ∧ IsRangeIter h it i left d) φ₀ φ lo H s) (fun n s hI => ?_) n ⟨i, lo, H, φ, hx, w⟩
  clear hx w
  obtain ⟨i, lo, H, φ, hx, w⟩ := hI
  obtain ⟨left, hn, hit⟩ := w.at_
  obtain ⟨h00, t00, e00⟩ := id w.st
  cases n with
  | zero =>
    cases hx
    exact wpAny_pyNext_range_end hA.1 hit (by omega) fun h' hs => wpAny_execs_nil (w.end I hs q)
  | succ n =>
    have hx' : (optS (bindT tg (.int i) lo H) fun lo => onward (ss lo H) fun lo H => forceI (Int.add i d) fun j => forR tg ss d n j lo H) = .ok f lo' H' := hx
    obtain ⟨lo1, h1, h2⟩ := optS_ok hx'
    refine wpAny_pyNext_range_item hit (by omega) fun h' hit' hs => ?_
    have w' := w.next (P' := fun h => IsRangeIter h it (i + d) (left - 1) d) (tk := s.toks + 1) I hs.extBut (some_ne hit') hit'
    dsimp only
    refine turn_R O S hA ht hb h1 h2 w'.sr w'.en (.int i _) (fun Q hq => ?_) (fun φ' h₂ tk l H1 hk R2 N2 X2 => ?_) (fun φ' h₂ tk v y e R2 N2 X2 z => ?_)
    · cases ht with
      | one => exact wpAny_pure hq
      | many => cases h1
    · rw [forceI_eq] at hk
      exact ⟨n, Nat.lt_succ_self _, i + d, l, H1, φ', hk, w'.body I R2 N2 X2 fun o e1 e2 => ⟨left - 1, by omega, e2.trans (e1.symm.trans hit')⟩⟩
    · have w2 := w'.body (P' := fun _ => True) (tk := tk) I R2 N2 X2 fun o _ _ => trivial
      have := q φ' h₂ tk (.ret y) w2.sr w2.en w2.ext (e ▸ .ret z)
      subst e00
      exact this

/-- lists and tuples, by their items -/
inductive SeqIt (h : Heap) : Bool → Addr → Addr → Nat → Prop where
  | lst {it l i} : h.IsListIter it l i → SeqIt h false it l i
  | tup {it l i} : h.IsTupleIter it l i → SeqIt h true it l i
theorem SeqIt.at {h h' : Heap} {b : Bool} {it l : Addr} {i : Nat} {o : Obj} (x : SeqIt h b it l i) (e : h.get? it = some o) (e' : h'.get? it = some o) : SeqIt h' b it l i := by
  cases x with
  | lst x => obtain ⟨o2, a, b, d⟩ := x; rw [e] at a; cases a; exact .lst ⟨o, e', b, d⟩
  | tup x => obtain ⟨o2, a, b, d⟩ := x; rw [e] at a; cases a; exact .tup ⟨o, e', b, d⟩
theorem SeqIt.there {h : Heap} {b : Bool} {it l : Addr} {i : Nat} (x : SeqIt h b it l i) : h.get? it ≠ none := by
  cases x with
  | lst x => obtain ⟨o, a, _⟩ := x; exact some_ne a
  | tup x => obtain ⟨o, a, _⟩ := x; exact some_ne a

theorem seqAt_ok {isT : Bool} {n : Pn} {H : Hp} {vs : List V} (h : seqAt isT n H = some vs) : H.get n = some (if isT then .tup vs else .list vs) := by
  obtain ⟨o, h1, h⟩ := opt1_ok h
  cases isT with
  | true =>
    obtain ⟨i, e, h⟩ := asTup_ok (show o.asTup some = some vs from h)
    cases h; subst e; exact h1
  | false =>
    obtain ⟨i, e, h⟩ := asList_ok (show o.asList some = some vs from h)
    cases h; subst e; exact h1

/-- the next item, or the end -/
theorem next_seq {φ : Phi} {H : Hp} {s : Shared} {A : Around} (hh : A.handled = none) {isT : Bool} {n : Pn} {l it : Addr} {i : Nat} {vs : List V} {Q : Option Value → Shared → Prop} {E : Value → Shared → Prop} (R : SR c φ H s.heap) (hl : φ n = some l) (hv : seqAt isT n H = some vs) (hit : SeqIt s.heap isT it l i)
    (q1 : ∀ v y h', vs[i]? = some v → VR c φ v y → SeqIt h' isT it l (i + 1) → Heap.ExtBut it s.heap h' → Q (some y) { s with heap := h' }) (q2 : ∀ h', vs[i]? = none → Heap.ExtBut it s.heap h' → Q none { s with heap := h' }) :
    wpAny (model c.prog c.w) A (pyNext (.ref it)) Q E s := by
  obtain ⟨a, e, w⟩ := R.rel _ _ (seqAt_ok hv)
  rw [hl] at e
  cases e
  cases hit with
  | lst hit =>
    cases w with
    | @list _ its k hL hr =>
      cases hg : vs[i]? with
      | some v =>
        obtain ⟨y, hy, z⟩ := hr.get hg
        exact wpAny_pyNext_list_item hit hL.isList (x := y) (by simpa using hy) fun h' hit' hs => q1 v y h' hg z (.lst hit') hs.extBut
      | none => exact wpAny_pyNext_list_end hh hit hL.isList (by simpa using hr.getNone hg) fun h' hs => q2 h' hg hs
  | tup hit =>
    cases w with
    | @tup _ its hL hr =>
      cases hg : vs[i]? with
      | some v =>
        obtain ⟨y, hy, z⟩ := hr.get hg
        exact wpAny_pyNext_tuple_item hit hL (x := y) (by simpa using hy) fun h' hit' hs => q1 v y h' hg z (.tup hit') hs.extBut
      | none => exact wpAny_pyNext_tuple_end hh hit hL (by simpa using hr.getNone hg) fun h' hs => q2 h' hg hs

theorem letGo_tuple {A : Around} {E : Value → Shared → Prop} {s : Shared} {elts : List Expr} {x1} {pos : Pos} {I l T : Addr} {i : Nat} {Q : Unit → Shared → Prop} {M : Model} (hit : s.heap.IsTupleIter I l i) (hQ : Q () s) :
    wpAny M A (letOwnedTupleGo (.Tuple elts x1 pos) (.ref I) (.ref T)) Q E s := by
  obtain ⟨o, ho, hc, hd⟩ := hit
  unfold letOwnedTupleGo
  refine wpAny_bind (wpAny_load ho ?_)
  rw [hc, hd]
  show wpAny _ A (if (["enumerate", "zip", "dict_itemiterator", "dict_reverseitemiterator", "odict_iterator", "itertools.zip_longest", "itertools.pairwise"].contains "tuple_iterator" &&
      (#[.ref l, .int i 0] : Array Value)[0]? == some (rawInt T)) = true then _ else _) Q E s
  rw [if_neg (by
    intro h
    rw [show (["enumerate", "zip", "dict_itemiterator", "dict_reverseitemiterator", "odict_iterator", "itertools.zip_longest", "itertools.pairwise"].contains "tuple_iterator") = false from by decide, Bool.false_and] at h
    cases h)]
  exact wpAny_pure hQ
theorem letGo_seq {A : Around} {E : Value → Shared → Prop} {s : Shared} {tg : Tg} {t : Expr} (ht : TgOk c sc tg t) {isT : Bool} {I l : Addr} {i : Nat} (hit : SeqIt s.heap isT I l i) {v : V} {y : Value} {φ : Phi} {lo lo1 : Lo} {H : Hp} (hb : bindT tg v lo H = some lo1) (z : VR c φ v y) {Q : Unit → Shared → Prop} (hQ : Q () s) :
    wpAny (model c.prog c.w) A (letOwnedTupleGo t (.ref I) y) Q E s := by
  cases ht with
  | one => exact wpAny_pure hQ
  | many =>
    obtain ⟨n, e, _⟩ := asRef_ok hb
    subst e
    cases z with
    | ref _ => cases hit with
      | lst h => exact wpAny_letOwnedTupleGo_listiter h hQ
      | tup h => exact letGo_tuple h hQ

theorem for_seq (O : CxOk c) {env : Env} (S : ScOk sc env) {A : Around} (hA : Rm r A) {tg : Tg} {t : Expr} (ht : TgOk c sc tg t) {ss : Sx} {body : List Stmt} (hb : SndSS c r sc ss body) {isT : Bool} {p : Pn} {l it : Addr} {s₀ : Shared} {φ₀ : Phi} {f : Fl} {lo' : Lo} {H' : Hp} {T : Result → Shared → Prop}
    (I : ItOk c env s₀.heap it) (hl : φ₀ p = some l) (q : LoopEnd c env s₀ φ₀ f lo' H' T) {n i : Nat} {lo : Lo} {H : Hp} {φ : Phi} {s : Shared} (hx : forL tg ss isT p n i lo H = .ok f lo' H') (w : Walk c env s₀ it (fun h => SeqIt h isT it l i) φ₀ φ lo H s) :
    codeAny (model c.prog c.w) A (.forLoop t (.ref it) body [] env) T s := by
  refine codeAny_forLoop_any (fun n s => ∃ i lo H φ, forL tg ss isT p n i lo H = .ok f lo' H' ∧ Walk c env s₀ it (fun h => SeqIt h isT it l i) φ₀ φ lo H s) (fun n s hI => ?_) n ⟨i, lo, H, φ, hx, w⟩
  clear hx w
  obtain ⟨i, lo, H, φ, hx, w⟩ := hI
  obtain ⟨h00, t00, e00⟩ := id w.st
  cases n with
  | zero => cases hx
  | succ n =>
    have hx' : (optS (seqAt isT p H) fun vs => @Option.rec V (fun _ => RS) (.ok .next lo H) (fun v => optS (bindT tg v lo H) fun lo => onward (ss lo H) fun lo H => forceN (Nat.succ i) fun j => forL tg ss isT p n j lo H) (nth vs i)) = .ok f lo' H' := hx
    obtain ⟨vs, h0, hx'⟩ := optS_ok hx'
    rw [nth_eq] at hx'
    refine next_seq hA.1 w.sr (w.ext.sub _ _ hl) h0 w.at_ (fun v y h' hg z hit' hs => ?_) fun h' hg hs => ?_
    · rw [hg] at hx'
      obtain ⟨lo1, h1, h2⟩ := optS_ok hx'
      have w' := w.next (P' := fun h => SeqIt h isT it l (i + 1)) (tk := s.toks) I hs hit'.there hit'
      refine turn_R O S hA ht hb h1 h2 (s := { s with heap := h' }) w'.sr w'.en z (fun Q hq => letGo_seq ht hit' h1 z hq) (fun φ' h₂ tk lo2 H1 hk R2 N2 X2 => ?_) (fun φ' h₂ tk v y e R2 N2 X2 z => ?_)
      · rw [forceN_eq] at hk
        exact ⟨n, Nat.lt_succ_self _, i + 1, lo2, H1, φ', hk, w'.body I R2 N2 X2 fun o e1 e2 => hit'.at e1 e2⟩
      · have w2 := w'.body (P' := fun _ => True) (tk := tk) I R2 N2 X2 fun o _ _ => trivial
        have := q φ' h₂ tk (.ret y) w2.sr w2.en w2.ext (e ▸ .ret z)
        subst e00
        exact this
    · rw [hg] at hx'
      cases hx'
      exact wpAny_execs_nil (w.end I hs q)

def notSet : Expr → Bool
  | .Set .. => false
  | _ => true
theorem not_set {e : Expr} (h : notSet e = true) (env : Env) (x : Value) : foldedSetIterable e env x = pure x := by
  cases e <;> first | rfl | cases h

/-- a source opened -/
theorem open_R {φ : Phi} {H : Hp} {s : Shared} {env : Env} {lo : Lo} {A : Around} {E : Value → Shared → Prop} {p : Pn} {o : O} {y : Value} {Q : Value → Shared → Prop} (R : SR c φ H s.heap) (N : EnvR c env φ lo s.heap) (ho : H.get p = some o) (z : VR c φ (.ref p) y)
    (q1 : ∀ a b d h', (∀ b o, s.heap.get? b = some o → h'.get? b = some o) → o = .range a b d → ItOk c env s.heap s.heap.objs.size → Walk c env s s.heap.objs.size (fun h => IsRangeIter h s.heap.objs.size a (Builtin.Range.rangeSize a b d) d) φ φ lo H { s with heap := h' } → Q (.ref s.heap.objs.size) { s with heap := h' })
    (q2 : ∀ isT vs l h', (∀ b o, s.heap.get? b = some o → h'.get? b = some o) → seqAt isT p H = some vs → (o = if isT then .tup vs else .list vs) → φ p = some l → ItOk c env s.heap s.heap.objs.size → Walk c env s s.heap.objs.size (fun h => SeqIt h isT s.heap.objs.size l 0) φ φ lo H { s with heap := h' } → Q (.ref s.heap.objs.size) { s with heap := h' })
    (hk : (∃ a b d, o = .range a b d) ∨ (∃ vs, o = .list vs) ∨ (∃ vs, o = .tup vs)) : wpAny (model c.prog c.w) A (pyIter y) Q E s := by
  obtain ⟨a, e, w⟩ := R.rel _ _ ho
  cases z with
  | ref e2 =>
    rw [e] at e2
    cases e2
    have hL := get_size s.heap
    have hbD : c.h₀.get? s.heap.objs.size = none := by
      cases e : c.h₀.get? s.heap.objs.size with
      | none => rfl
      | some y => have := R.base _ _ e; rw [hL] at this; cases this
    have I : ItOk c env s.heap s.heap.objs.size := ⟨hbD, fun q => (N.own _ q).2.2 hL, hL⟩
    have hk1 : ∀ (x : Obj) b o, s.heap.get? b = some o → (s.heap.push x).get? b = some o := fun x b o e => Heap.get?_push_of_some _ e
    have W : ∀ (x : Obj) (P : Heap → Prop), P (s.heap.push x) → x.isFreed = false → Walk c env s s.heap.objs.size P φ φ lo H { s with heap := s.heap.push x } := fun x P hp hf =>
      ⟨⟨_, _, rfl⟩, R.grown (hk1 x), N.grown (hk1 x), hp, R.notIn hL, .grown (hk1 x), some_ne (Heap.get?_push_size _ hf)⟩
    rcases hk with ⟨x, y, d, e3⟩ | ⟨vs, e3⟩ | ⟨vs, e3⟩
    · subst e3
      cases w with
      | range hr hsm => exact wpAny_pyIter_range hr hsm (q1 _ _ _ _ (hk1 _) rfl I (W _ _ (Heap.get?_push_size _ rfl) rfl))
    · subst e3
      cases w with
      | list hl hr => exact wpAny_pyIter_list hl.isList (q2 false _ _ _ (hk1 _) (by unfold seqAt; rw [ho]; rfl) rfl e I (W _ _ (.lst ⟨_, Heap.get?_push_size _ rfl, rfl, rfl⟩) rfl))
    · subst e3
      cases w with
      | tup hl hr => exact wpAny_pyIter_tuple hl (q2 true _ _ _ (hk1 _) (by unfold seqAt; rw [ho]; rfl) rfl e I (W _ _ (.tup ⟨_, Heap.get?_push_size _ rfl, rfl, rfl⟩) rfl))

theorem snd_for (O : CxOk c) {tg : Tg} {t : Expr} {it : Ex} {ei : Expr} {ss : Sx} {body : List Stmt} {pos} (ht : TgOk c sc tg t) (hi : SndE c r sc it ei) (hb : SndSS c r sc ss body) (hs : notSet ei = true) : SndS c r sc (s_for tg it ss) (.For t ei body [] pos) := by
  intro lo H f lo' H' hx env A φ s Q E S hA R N q
  obtain ⟨x, H1, h1, hx⟩ := bindS_ok hx
  obtain ⟨⟨p, o⟩, h2, hx⟩ := optS_ok hx
  obtain ⟨p', e, h3⟩ := asRef_ok h2
  subst e
  obtain ⟨o', h4, h5⟩ := opt1_ok h3
  cases h5
  refine wpAny_For (hi lo H _ _ h1 env A φ s _ E S hA R N fun φ1 hp1 tk1 y R1 X1 z1 => ?_) (not_set hs env)
  refine open_R (s := { s with heap := hp1, toks := tk1 }) R1 (N.ext X1) h4 z1 (fun a b d h' _ e I w => ?_) (fun isT vs l h' _ hv e hl I w => ?_) ?_
  · subst e
    change (forceN _ fun m => forR tg ss d m a lo H1) = _ at hx
    rw [forceN_eq] at hx
    exact for_range O S hA ht hb I (fun φ' h' tk g R' N' X' z => q φ' h' tk g R' (X1.of_no.trans X') N' z) hx ⟨w.st, w.sr, w.en, ⟨_, rfl, w.at_⟩, w.no, w.ext, w.there⟩
  · subst e
    cases isT with
    | true =>
      change (forceN _ fun m => forL tg ss true p m 0 lo H1) = _ at hx
      rw [forceN_eq] at hx
      exact for_seq O S hA ht hb I hl (fun φ' h' tk g R' N' X' z => q φ' h' tk g R' (X1.of_no.trans X') N' z) hx w
    | false =>
      change (forceN _ fun m => forL tg ss false p m 0 lo H1) = _ at hx
      rw [forceN_eq] at hx
      exact for_seq O S hA ht hb I hl (fun φ' h' tk g R' N' X' z => q φ' h' tk g R' (X1.of_no.trans X') N' z) hx w
  · cases o with
    | range a b d => exact .inl ⟨a, b, d, rfl⟩
    | list vs => exact .inr (.inl ⟨vs, rfl⟩)
    | tup vs => exact .inr (.inr ⟨vs, rfl⟩)
    | _ => cases hx

theorem snd_whl (O : CxOk c) {t : Tx} {et : Expr} {ss : Sx} {body : List Stmt} {pos} (ht : SndT c r sc t et) (hb : SndSS c r sc ss body) : SndS c r sc (s_whl t ss) (.While et body [] pos) := by
  intro lo H f lo' H' hx env A φ s Q E S hA R N q
  refine wpAny_While ?_
  refine codeAny_whileLoop (fun n s' => ∃ lo1 H1 φ1 h1 tk1, s' = { s with heap := h1, toks := tk1 } ∧ whlL t ss n lo1 H1 = .ok f lo' H' ∧ SR c φ1 H1 h1 ∧ EnvR c env φ1 lo1 h1 ∧ Ext (ownX env) φ s.heap φ1 h1) (fun n s' hI => ?_) 10000 ⟨lo, H, φ, s.heap, s.toks, rfl, hx, R, N, .refl⟩
  obtain ⟨lo1, H1, φ1, h1, tk1, e, hx, R1, N1, X1⟩ := hI
  subst e
  cases n with
  | zero => cases hx
  | succ n =>
    have hx' : ((t lo1 H1).bindS fun b H2 => @Bool.rec (fun _ => RS) (.ok .next lo1 H2) (onward (ss lo1 H2) (whlL t ss n)) b) = .ok f lo' H' := hx
    obtain ⟨b, H2, h2, hx'⟩ := bindS_ok hx'
    refine ht lo1 H1 b H2 h2 env A φ1 { s with heap := h1, toks := tk1 } _ _ S hA R1 N1 fun φ2 hp2 tk2 R2 X2 => ?_
    cases b with
    | false =>
      cases hx'
      exact wpAny_execs_nil (q φ2 hp2 tk2 .next R2 (X1.trans X2.of_no) (N1.ext X2) .next)
    | true =>
      obtain ⟨g, l, H3, h3, h4⟩ := onward_ok hx'
      refine hb lo1 H2 g l H3 h3 env A φ2 { s with heap := hp2, toks := tk2 } _ _ S hA R2 (N1.ext X2) fun φ3 hp3 tk3 g3 R3 X3 N3 z3 => ?_
      rcases h4 with ⟨v, e1, e2, e3, e4⟩ | ⟨h4, h5⟩
      · subst e1 e2 e3 e4
        cases z3 with
        | ret zz => exact q φ3 hp3 tk3 _ R3 ((X1.trans X2.of_no).trans X3) N3 (.ret zz)
      · rcases h4 with e | e <;> (subst e; cases z3; exact ⟨n, Nat.lt_succ_self _, l, H3, φ3, hp3, tk3, rfl, h5, R3, N3, (X1.trans X2.of_no).trans X3⟩)
end
end Mine

namespace Mine
open PySem PySem.SeqAt PySem.W PySem.Calls PyProof.Rows

section
variable {c : Cx} {r : Nat} {sc : Scope}

/-- a comprehension's tests -/
def SndI (c : Cx) (r : Nat) (sc : Scope) (t : Tx) (ifs : List Expr) : Prop := ∀ lo H b H', t lo H = .ok b H' → ∀ (env : Env) (A : Around) (φ : Phi) (s : Shared) (Q : Bool → Shared → Prop) (E : Value → Shared → Prop),
  ScOk sc env → Rm r A → SR c φ H s.heap → EnvR c env φ lo s.heap →
  (∀ φ' h' tk, SR c φ' H' h' → Ext noX φ s.heap φ' h' → Q b { s with heap := h', toks := tk }) →
  wpAny (model c.prog c.w) A (forIn ifs true fun c r => if r = true then do let ok ← isTrue c env (eval c env); pure (ForInStep.yield ok) else pure (ForInStep.yield r)) Q E s
theorem snd_i_nil : SndI c r sc (t_tt true) [] := by
  intro lo H b H' hx env A φ s Q E S hA R N q
  cases hx
  exact wpAny_tests_nil (q φ s.heap s.toks R .refl)
theorem snd_i_one {t : Tx} {e : Expr} (h : SndT c r sc t e) : SndI c r sc t [e] := by
  intro lo H b H' hx env A φ s Q E S hA R N q
  exact wpAny_tests_one (h lo H b H' hx env A φ s Q E S hA R N q)

/-! the comprehension's own frame -/
def compOk (sc cs : Scope) (x : Str) : Bool :=
  cs.kind == .function && (cs.names.all fun p => match p.2 with
    | .local => p.1 == x || p.1 == Str.ofString ".0"
    | .cell => false
    | .free => (match sc.names.lookup p.1 with | some .cell => true | some .free => true | _ => false) && !(p.1 == x)
    | _ => true) && cs.names.lookup x == some .local && noDup (cs.names.map (·.1))

theorem lookup_mem {names : List (Str × NameKind)} {x : Str} {k : NameKind} (h : names.lookup x = some k) : (x, k) ∈ names := by
  obtain ⟨l₁, l₂, e, _⟩ := List.lookup_eq_some_iff.mp h
  rw [e]; simp
theorem noDup_of_mem : ∀ {names : List (Str × NameKind)}, noDup (names.map (·.1)) = true → ∀ {x : Str} {k : NameKind}, (x, k) ∈ names → names.lookup x = some k
  | [], _, _, _, h => by cases h
  | (n, k0) :: r, hd, x, k, h => by
    unfold noDup at hd
    rw [List.map_cons] at hd
    simp only [Bool.and_eq_true, Bool.not_eq_true'] at hd
    rw [List.lookup_cons]
    rcases List.mem_cons.mp h with e | h
    · cases e; simp
    · have : (x == n) = false := by
        have := List.any_eq_false.mp hd.1 x (List.mem_map.mpr ⟨_, h, rfl⟩)
        simpa using this
      rw [this]
      exact noDup_of_mem hd.2 h

theorem relabel_lookup {env : Env} : ∀ (names : List (Str × NameKind)) (x : Str) (k : NameKind), names.lookup x = some k →
    (names.map fun (n, k) => if (k == NameKind.free && env.scope.kind == .function && env.kindOf n == some .cell) then (n, NameKind.cell) else (n, k)).lookup x = some (if (k == NameKind.free && env.scope.kind == .function && env.kindOf x == some .cell) then .cell else k)
  | [], _, _, h => by cases h
  | (n, k0) :: r, x, k, h => by
    have ih := relabel_lookup (env := env) r x k
    rw [List.map_cons]
    rw [List.lookup_cons] at h
    cases hx : x == n with
    | true =>
      rw [hx] at h
      cases h
      have e := beq_iff_eq.mp hx
      subst e
      dsimp only
      split <;> simp [List.lookup_cons, *]
    | false =>
      rw [hx] at h
      dsimp only
      split <;> (simp only [List.lookup_cons, hx]; exact ih h)
theorem relabel_none {env : Env} : ∀ (names : List (Str × NameKind)) (x : Str), names.lookup x = none →
    (names.map fun (n, k) => if (k == NameKind.free && env.scope.kind == .function && env.kindOf n == some .cell) then (n, NameKind.cell) else (n, k)).lookup x = none
  | [], _, _ => rfl
  | (n, k0) :: r, x, h => by
    have ih := relabel_none (env := env) r x
    rw [List.map_cons]
    rw [List.lookup_cons] at h
    cases hx : x == n with
    | true => rw [hx] at h; cases h
    | false =>
      rw [hx] at h
      dsimp only
      split <;> (simp only [List.lookup_cons, hx]; exact ih h)

/-- the cells that are handed down -/
def clOf (env : Env) (names : List (Str × NameKind)) (acc : List (Str × Addr)) : List (Str × Addr) := names.foldl (fun cs p => match p.2 with
  | .free => (match env.cells.lookup p.1 with | some a => (p.1, a) :: cs | none => cs)
  | _ => cs) acc
theorem closure_go {env : Env} : ∀ (names : List (Str × NameKind)) (acc : List (Str × Addr)), (∀ p ∈ names, p.2 = .free → ∃ a, env.cells.lookup p.1 = some a) →
    (forIn names acc fun (x : Str × NameKind) (__s : List (Str × Addr)) => (match x with
      | (name, kind) => if (kind == .free) = true then do let y ← cellOf env name; pure (ForInStep.yield ((name, y) :: __s)) else pure (ForInStep.yield __s) : Sem (ForInStep (List (Str × Addr))))) = pure (clOf env names acc)
  | [], acc, _ => by simp [clOf]
  | (n, k) :: r, acc, h => by
    rw [List.forIn_cons]
    have ih := fun acc => closure_go r acc fun p hp => h p (.tail _ hp)
    dsimp only
    cases k with
    | free =>
      obtain ⟨a, e⟩ := h (n, .free) (.head _) rfl
      have e2 : cellOf env n = pure a := by unfold cellOf; rw [show env.cells.lookup n = some a from e]
      rw [if_pos (by decide), e2]
      simp only [pure_bind]
      rw [ih]
      unfold clOf
      rw [List.foldl_cons]
      dsimp only
      rw [show env.cells.lookup n = some a from e]
    | _ =>
      rw [if_neg (by decide)]
      simp only [pure_bind]
      rw [ih]
      rfl
theorem closureFor_is {env : Env} {cs : Scope} (h : ∀ p ∈ cs.names, p.2 = .free → ∃ a, env.cells.lookup p.1 = some a) : closureFor cs env = pure (clOf env cs.names []) := by
  unfold closureFor
  have := closure_go cs.names [] h
  simp only [this, pure_bind]
theorem clOf_lookup {env : Env} : ∀ (names : List (Str × NameKind)) (acc : List (Str × Addr)) (y : Str) (a : Addr), (clOf env names acc).lookup y = some a → env.cells.lookup y = some a ∨ acc.lookup y = some a
  | [], acc, y, a, h => .inr h
  | (n, k) :: r, acc, y, a, h => by
    unfold clOf at h
    rw [List.foldl_cons] at h
    have ih := clOf_lookup r _ y a (show (clOf env r _).lookup y = some a from h)
    rcases ih with h1 | h1
    · exact .inl h1
    · cases k <;> first | exact .inr h1 | skip
      dsimp only at h1
      cases e : env.cells.lookup n with
      | none => rw [e] at h1; exact .inr h1
      | some b =>
        rw [e] at h1
        rw [List.lookup_cons] at h1
        cases q : y == n with
        | true => rw [q] at h1; cases h1; rw [beq_iff_eq.mp q]; exact .inl e
        | false => rw [q] at h1; exact .inr h1
theorem clOf_keeps {env : Env} : ∀ (names : List (Str × NameKind)) (acc : List (Str × Addr)) (y : Str), ((clOf env names acc).lookup y = none → acc.lookup y = none)
  | [], acc, y, h => h
  | (n, k) :: r, acc, y, h => by
    unfold clOf at h
    rw [List.foldl_cons] at h
    have ih := clOf_keeps r _ y (show (clOf env r _).lookup y = none from h)
    cases k <;> first | exact ih | skip
    dsimp only at ih
    cases e : env.cells.lookup n with
    | none => rw [e] at ih; exact ih
    | some b =>
      rw [e] at ih
      rw [List.lookup_cons] at ih
      cases q : y == n with
      | true => rw [q] at ih; cases ih
      | false => rw [q] at ih; exact ih
theorem clOf_has {env : Env} : ∀ (names : List (Str × NameKind)) (acc : List (Str × Addr)) (y : Str) (a : Addr), (y, NameKind.free) ∈ names → env.cells.lookup y = some a → ∃ b, (clOf env names acc).lookup y = some b
  | [], _, _, _, h, _ => by cases h
  | (n, k) :: r, acc, y, a, h, e => by
    rcases List.mem_cons.mp h with q | q
    · injection q with q1 q2
      subst q1
      subst q2
      unfold clOf
      rw [List.foldl_cons]
      dsimp only
      rw [e]
      cases z : (clOf env r ((y, a) :: acc)).lookup y with
      | some b => exact ⟨b, z⟩
      | none => have := clOf_keeps r _ y z; simp at this
    · exact clOf_has r _ y a q e

theorem comp_env (O : CxOk c) {env : Env} (S : ScOk sc env) {cs : Scope} {x : Str} {p : Pn} (hn : c.nm p x) (hc : compOk sc cs x = true) (hdot : ∀ q, c.nm q (Str.ofString ".0") → False) {C : Addr} {φ : Phi} {lo : Lo} {h : Heap} {v : V} {y : Value} {m : Str → Option Value} (N : EnvR c env φ lo h)
    (hC : h.Ns C m) (hm : m x = some y) (z : VR c φ v y) (hnC : ∀ n, φ n ≠ some C) (hbC : c.h₀.get? C = none) (hoC : ¬ ownX env C) : ScOk cs (compEnvC cs (clOf env cs.names []) C env) ∧ EnvR c (compEnvC cs (clOf env cs.names []) C env) φ (TrV.set lo p v) h := by
  unfold compOk at hc
  simp only [Bool.and_eq_true, beq_iff_eq] at hc
  obtain ⟨⟨⟨hk, hall⟩, hx⟩, hdup⟩ := hc
  have hall := List.all_eq_true.mp hall
  have kof : ∀ y k, cs.names.lookup y = some k → (compEnvC cs (clOf env cs.names []) C env).kindOf y = some (if (k == NameKind.free && env.scope.kind == .function && env.kindOf y == some .cell) then .cell else k) := fun y k e => relabel_lookup cs.names y k e
  have kno : ∀ y, cs.names.lookup y = none → (compEnvC cs (clOf env cs.names []) C env).kindOf y = none := fun y e => relabel_none cs.names y e
  -- what the outer frame says of a free name
  have fr : ∀ y, isCl ((compEnvC cs (clOf env cs.names []) C env).kindOf y) → cs.names.lookup y = some .free ∧ isCl (env.kindOf y) ∧ y ≠ x := fun y hy => by
    cases e : cs.names.lookup y with
    | none => rw [kno y e] at hy; rcases hy with h | h <;> cases h
    | some k =>
      have hp := hall _ (lookup_mem e)
      rw [kof y k e] at hy
      cases k with
      | free =>
        dsimp only at hp
        simp only [Bool.and_eq_true, Bool.not_eq_true', beq_eq_false_iff_ne] at hp
        refine ⟨rfl, ?_, hp.2⟩
        cases e2 : sc.names.lookup y with
        | none => rw [e2] at hp; exact absurd hp.1 (by decide)
        | some k2 =>
          rw [e2] at hp
          have := S y k2 e2
          cases k2 <;> first | exact this | exact absurd hp.1 (by decide)
      | cell => cases hp
      | _ => rcases hy with h | h <;> cases h
  have lo_ne : ∀ q y v', c.nm q y → y ≠ x → TrV.get (TrV.set lo p v) q = some v' → TrV.get lo q = some v' := fun q y v' hq hne e => by
    rw [TrV.get_set_ne] at e
    · exact e
    · rintro rfl; exact hne (O.nmFun _ _ _ hq hn)
  have own : ∀ y a, (compEnvC cs (clOf env cs.names []) C env).cells.lookup y = some a → env.cells.lookup y = some a := fun y a e => (clOf_lookup cs.names [] y a e).resolve_right (by simp)
  have has : ∀ y, isCl ((compEnvC cs (clOf env cs.names []) C env).kindOf y) → ∃ a w, (compEnvC cs (clOf env cs.names []) C env).cells.lookup y = some a ∧ env.cells.lookup y = some a ∧ h.IsCell a w := fun y hy => by
    obtain ⟨e1, e2, _⟩ := fr y hy
    obtain ⟨a, w, e3, e4⟩ := N.all y e2
    obtain ⟨b, e5⟩ := clOf_has cs.names [] y a (lookup_mem e1) e3
    have e6 := own y b e5
    rw [e3] at e6
    cases e6
    exact ⟨a, w, e5, e3, e4⟩
  refine ⟨fun y k e => ?_, hk, N.glob, N.bi, ⟨m, hC, fun q y' v' hq hv hl => ?_⟩, fun q y' v' hq hv hl => ?_, fun b ob => ?_, fun y' hl => ?_, fun y1 y2 a e1 e2 => N.inj y1 y2 a (own _ _ e1) (own _ _ e2), fun y1 a e1 e2 => hoC (.inr ⟨y1, by have e3 : a = C := e2; subst e3; exact own _ _ e1⟩)⟩
  · have hp := hall _ (lookup_mem e)
    have kk := kof y k e
    cases k with
    | «local» => exact kk
    | globalImplicit => exact kk
    | cell => cases hp
    | free =>
      dsimp only
      rw [kk]
      by_cases q : (NameKind.free == NameKind.free && env.scope.kind == .function && env.kindOf y == some .cell) = true
      · rw [if_pos q]; exact .inl rfl
      · rw [if_neg q]; exact .inr rfl
    | _ => trivial
  · have e : y' = x := by
      cases e : cs.names.lookup y' with
      | none => rw [kno y' e] at hl; cases hl
      | some k =>
        have hp := hall _ (lookup_mem e)
        rw [kof y' k e] at hl
        cases k with
        | «local» =>
          dsimp only at hp
          rw [Bool.or_eq_true] at hp
          rcases hp with hp | hp
          · exact beq_iff_eq.mp hp
          · rw [beq_iff_eq.mp hp] at hq; exact (hdot q hq).elim
        | free =>
          by_cases q : (NameKind.free == NameKind.free && env.scope.kind == .function && env.kindOf y' == some .cell) = true
          · rw [if_pos q] at hl; cases hl
          · rw [if_neg q] at hl; cases hl
        | _ => cases hl
    subst e
    have e2 := O.nmInj _ _ _ hq hn
    subst e2
    rw [TrV.get_set_self] at hv
    cases hv
    exact ⟨y, hm, z⟩
  · obtain ⟨e1, e2, e3⟩ := fr y' hl
    obtain ⟨a, w, e4, e5, e6⟩ := N.cel q y' v' hq (lo_ne q y' v' hq e3 hv) e2
    obtain ⟨a2, w2, f1, f2, f3⟩ := has y' hl
    rw [e4] at f2
    cases f2
    exact ⟨a, w, f1, e5, e6⟩
  · rcases ob with e | ⟨y', e⟩
    · subst e
      obtain ⟨o, es, ep, q, _⟩ := hC
      exact ⟨hnC, hbC, some_ne q⟩
    · exact N.own b (.inr ⟨y', own _ _ e⟩)
  · obtain ⟨a, w, f1, f2, f3⟩ := has y' hl
    exact ⟨a, w, f1, f3⟩
end
end Mine

namespace Mine
open PySem PySem.SeqAt PySem.W PySem.Calls PyProof.Rows

section
variable {c : Cx} {r : Nat} {sc : Scope}

structure Three (c : Cx) (hB : Heap) (it D C : Addr) : Prop where
  i0 : c.h₀.get? it = none
  d0 : c.h₀.get? D = none
  c0 : c.h₀.get? C = none
  iB : hB.get? it = none
  dB : hB.get? D = none
  cB : hB.get? C = none
  id : it ≠ D
  ic : it ≠ C
  dc : D ≠ C

def PAt (it : Addr) (P : Heap → Prop) : Prop := ∀ h h' o, P h → h.get? it = some o → h'.get? it = some o → P h'

structure CW (c : Cx) (s₀ : Shared) (it D C : Addr) (P : Heap → Prop) (φ₀ φ : Phi) (H : Hp) (acc : List V) (s : Shared) : Prop where
  st : ∃ h tk, s = { s₀ with heap := h, toks := tk }
  sr : SR c φ H s.heap
  ext : Ext noX φ₀ s₀.heap φ s.heap
  at_ : P s.heap
  there : s.heap.get? it ≠ none
  ns : ∃ m, s.heap.Ns C m
  ac : ∃ its k, IsL s.heap D its k ∧ All2 (VR c φ) acc its.toList
  ni : ∀ n, φ n ≠ some it
  nd : ∀ n, φ n ≠ some D
  nc : ∀ n, φ n ≠ some C

section
variable {s₀ s : Shared} {it D C : Addr} {P P' : Heap → Prop} {φ₀ φ φ' : Phi} {H H' : Hp} {acc acc' : List V} {h' : Heap} {tk : Nat}
theorem st_with (w : ∃ h t, s = { s₀ with heap := h, toks := t }) : ∃ h t, ({ s with heap := h', toks := tk } : Shared) = { s₀ with heap := h, toks := t } := by
  obtain ⟨h, t, e⟩ := w
  exact ⟨h', tk, by subst e; rfl⟩
theorem Ns_at {h h' : Heap} {C : Addr} (x : ∃ m, h.Ns C m) (e : ∀ o, h.get? C = some o → h'.get? C = some o) : ∃ m, h'.Ns C m := by
  obtain ⟨m, o, es, ep, a, b⟩ := x
  exact ⟨m, o, es, ep, e o a, b⟩
theorem CW.grow (w : CW c s₀ it D C P φ₀ φ H acc s) (hP : PAt it P) (R : SR c φ' H' h') (x : Ext noX φ s.heap φ' h') : CW c s₀ it D C P φ₀ φ' H' acc { s with heap := h', toks := tk } := by
  obtain ⟨o, q⟩ := ne_some w.there
  obtain ⟨its, k, a1, a2⟩ := w.ac
  have hC : s.heap.get? C ≠ none := by obtain ⟨m, o, es, ep, a, _⟩ := w.ns; exact some_ne a
  exact ⟨st_with w.st, R, w.ext.trans x, hP _ _ o w.at_ q (x.keep it o q w.ni fun q => q), x.live it w.there, Ns_at w.ns fun o e => x.keep C o e w.nc fun q => q, ⟨its, k, x.keep D _ a1 w.nd fun q => q, a2.mono fun _ _ => VR.mono x.sub⟩, x.notIn w.ni w.there, x.notIn w.nd (some_ne a1), x.notIn w.nc hC⟩
theorem CW.touchC (w : CW c s₀ it D C P φ₀ φ H acc s) (T : Three c s₀.heap it D C) (hP : PAt it P) (hs : Heap.ExtBut C s.heap h') (hn : ∃ m, h'.Ns C m) : CW c s₀ it D C P φ₀ φ H acc { s with heap := h', toks := tk } := by
  obtain ⟨o, q⟩ := ne_some w.there
  obtain ⟨its, k, a1, a2⟩ := w.ac
  have qi := hs it o T.ic q
  exact ⟨st_with w.st, w.sr.but w.nc T.c0 hs, w.ext.thenBut T.cB hs, hP _ _ o w.at_ q qi, some_ne qi, hn, ⟨its, k, hs D _ T.dc a1, a2⟩, w.ni, w.nd, w.nc⟩
theorem CW.touchI (w : CW c s₀ it D C P φ₀ φ H acc s) (T : Three c s₀.heap it D C) (hs : Heap.ExtBut it s.heap h') (hp : P' h') (hl : h'.get? it ≠ none) : CW c s₀ it D C P' φ₀ φ H acc { s with heap := h', toks := tk } := by
  obtain ⟨its, k, a1, a2⟩ := w.ac
  exact ⟨st_with w.st, w.sr.but w.ni T.i0 hs, w.ext.thenBut T.iB hs, hp, hl, Ns_at w.ns fun o e => hs C o (Ne.symm T.ic) e, ⟨its, k, hs D _ (Ne.symm T.id) a1, a2⟩, w.ni, w.nd, w.nc⟩
theorem CW.touchD (w : CW c s₀ it D C P φ₀ φ H acc s) (T : Three c s₀.heap it D C) (hP : PAt it P) (hs : Heap.ExtBut D s.heap h') (ha : ∃ its k, IsL h' D its k ∧ All2 (VR c φ) acc' its.toList) : CW c s₀ it D C P φ₀ φ H acc' { s with heap := h', toks := tk } := by
  obtain ⟨o, q⟩ := ne_some w.there
  have qi := hs it o T.id q
  exact ⟨st_with w.st, w.sr.but w.nd T.d0 hs, w.ext.thenBut T.dB hs, hP _ _ o w.at_ q qi, some_ne qi, Ns_at w.ns fun o e => hs C o (Ne.symm T.dc) e, ha, w.ni, w.nd, w.nc⟩
end

def Tests (A : Around) (M : Model) (ifs : List Expr) (cenv : Env) (Q : Bool → Shared → Prop) (E : Value → Shared → Prop) (s : Shared) : Prop :=
  wpAny M A (forIn ifs true fun c r => if r = true then do let ok ← isTrue c cenv (eval c cenv); pure (ForInStep.yield ok) else pure (ForInStep.yield r)) Q E s

theorem compTurn_R (O : CxOk c) {env : Env} (S : ScOk sc env) {A : Around} (hA : Rm r A) {cs : Scope} {x : Str} {p : Pn} {px : Pos} (hn : c.nm p x) (hc : compOk sc cs x = true) (hdot : ∀ q, c.nm q (Str.ofString ".0") → False) {t : Tx} {e : Ex} {ifs : List Expr} {elt : Expr} (ht : SndI c r cs t ifs) (he : SndE c r cs e elt)
    {s₀ s : Shared} {it D C : Addr} {P : Heap → Prop} {φ₀ φ : Phi} {H H1 : Hp} {acc acc1 : List V} {lo : Lo} {v : V} {y : Value} {Cn : Shared → Prop} {E1 E2 E3 E4 : Value → Shared → Prop} (T : Three c s₀.heap it D C) (hP : PAt it P) (N₀ : EnvR c env φ₀ lo s₀.heap) (hz : acc.length ≤ 100000)
    (w : CW c s₀ it D C P φ₀ φ H acc s) (z : VR c φ v y) (hx : compT p t e v lo H acc = .ok acc1 H1) (q : ∀ φ' s', CW c s₀ it D C P φ₀ φ' H1 acc1 s' → Cn s') :
    wpAny (model c.prog c.w) A (assign (.Name x px) (compEnvC cs (clOf env cs.names []) C env) y) (fun _ s₂ =>
      wpAny (model c.prog c.w) A (forIn ifs true fun c r => if r = true then do let ok ← isTrue c (compEnvC cs (clOf env cs.names []) C env) (eval c (compEnvC cs (clOf env cs.names []) C env)); pure (ForInStep.yield ok) else pure (ForInStep.yield r)) (fun ok s₃ =>
        if ok = true then wpAny (model c.prog c.w) A (eval elt (compEnvC cs (clOf env cs.names []) C env)) (fun x s₄ =>
          wpAny (model c.prog c.w) A (call (.builtin "list.append") [.ref D, x]) (fun _ s₅ => Cn s₅) E4 s₄) E3 s₃
        else Cn s₃) E2 s₂) E1 s := by
  have hc' := hc
  unfold compOk at hc'
  simp only [Bool.and_eq_true, beq_iff_eq] at hc'
  obtain ⟨⟨⟨hk, _⟩, hxl⟩, _⟩ := hc'
  obtain ⟨m, hns⟩ := w.ns
  have hoC : ¬ ownX env C := fun q => (N₀.own _ q).2.2 T.cB
  refine wpAny_assign_Name (wpAny_storeName_local (env := compEnvC cs (clOf env cs.names []) C env) (lookup_relabel_local hxl) (m := m) hns (fun h1 hn1 hs1 => ?_) (by simp [compEnvC, relabel, hk]))
  have w1 := w.touchC (tk := s.toks + 1) T hP hs1.extBut ⟨_, hn1⟩
  have N1 : EnvR c env φ lo h1 := N₀.ext w1.ext
  obtain ⟨S', N'⟩ := comp_env O S hn hc hdot (y := y) N1 hn1 (if_pos rfl) z w.nc T.c0 hoC
  obtain ⟨b, H2, h2, hx⟩ := bind_ok hx
  refine ht _ H b H2 h2 _ A φ { s with heap := h1, toks := s.toks + 1 } _ E2 S' hA w1.sr N' fun φ2 hp2 tk2 R2 X2 => ?_
  have w2 := w1.grow (tk := tk2) hP R2 X2
  cases b with
  | false =>
    cases hx
    exact q φ2 _ w2
  | true =>
    obtain ⟨v2, H3, h3, hx⟩ := bind_ok hx
    cases hx
    refine he _ H2 v2 _ h3 _ A φ2 { s with heap := hp2, toks := tk2 } _ E3 S' hA R2 (N'.ext X2) fun φ3 hp3 tk3 y3 R3 X3 z3 => ?_
    have w3 := w2.grow (tk := tk3) hP R3 X3
    obtain ⟨its, k, a1, a2⟩ := w3.ac
    have hlen := a2.length
    rw [Array.length_toList] at hlen
    refine append_isL (s := { s with heap := hp3, toks := tk3 }) a1 (line_size (by omega)) fun h' n' hl' hs' => ?_
    exact q φ3 _ (w3.touchD (tk := tk3) T hP hs'.extBut ⟨_, _, hl', by rw [lapp_eq, Array.toList_push]; exact a2.app (.cons z3 .nil)⟩)

/-! the machine's rows only grow -/
theorem compT_len {p : Pn} {t : Tx} {e : Ex} {v : V} {lo : Lo} {H H1 : Hp} {acc acc1 : List V} (h : compT p t e v lo H acc = .ok acc1 H1) : acc.length ≤ acc1.length := by
  obtain ⟨b, H2, h2, h⟩ := bind_ok h
  cases b with
  | false => cases h; exact Nat.le_refl _
  | true =>
    obtain ⟨w, H3, h3, h⟩ := bind_ok h
    cases h
    rw [lapp_eq, List.length_append]; omega
theorem compR_len {p : Pn} {t : Tx} {e : Ex} {d : Int} : ∀ (n : Nat) {i : Int} {lo : Lo} {H H' : Hp} {acc vs : List V}, compR p t e d n i lo H acc = .ok vs H' → acc.length ≤ vs.length
  | 0, i, lo, H, H', acc, vs, h => by cases h; exact Nat.le_refl _
  | n + 1, i, lo, H, H', acc, vs, h => by
    obtain ⟨acc1, H1, h1, h2⟩ := bind_ok (show (compT p t e (.int i) lo H acc).bind (fun acc' H' => forceI (Int.add i d) fun j => compR p t e d n j lo H' acc') = .ok vs H' from h)
    rw [forceI_eq] at h2
    exact Nat.le_trans (compT_len h1) (compR_len n h2)
theorem compL_len {p : Pn} {t : Tx} {e : Ex} {isT : Bool} {q : Pn} : ∀ (n : Nat) {i : Nat} {lo : Lo} {H H' : Hp} {acc vs : List V}, compL p t e isT q n i lo H acc = .ok vs H' → acc.length ≤ vs.length
  | 0, i, lo, H, H', acc, vs, h => by cases h
  | n + 1, i, lo, H, H', acc, vs, h => by
    obtain ⟨ws, h0, h1⟩ := opt_ok (show opt (seqAt isT q H) (fun ws => @Option.rec V (fun _ => Mine.R (List V)) (.ok acc H) (fun v => (compT p t e v lo H acc).bind fun acc' H' => forceN (Nat.succ i) fun j => compL p t e isT q n j lo H' acc') (nth ws i)) = .ok vs H' from h)
    cases hg : nth ws i with
    | none => rw [hg] at h1; cases h1; exact Nat.le_refl _
    | some v =>
      rw [hg] at h1
      obtain ⟨acc1, H1, h1, h2⟩ := bind_ok h1
      rw [forceN_eq] at h2
      exact Nat.le_trans (compT_len h1) (compL_len n h2)

/-- what a comprehension's loop ends with -/
def CompEnd (c : Cx) (s₀ : Shared) (it D C : Addr) (φ₀ : Phi) (H' : Hp) (vs : List V) (T : Result → Shared → Prop) : Prop :=
  ∀ φ' h' tk, SR c φ' H' h' → Ext noX φ₀ s₀.heap φ' h' → (∃ m, h'.Ns C m) → (∃ its k, IsL h' D its k ∧ All2 (VR c φ') vs its.toList) → (∀ n, φ' n ≠ some D) → (∀ n, φ' n ≠ some C) → T (.ok .next) { s₀ with heap := h', toks := tk }
theorem CW.end {s₀ s : Shared} {it D C : Addr} {P : Heap → Prop} {φ₀ φ : Phi} {H : Hp} {vs : List V} {h' : Heap} {R : Result → Shared → Prop} (w : CW c s₀ it D C P φ₀ φ H vs s) (T : Three c s₀.heap it D C) (hs : Heap.ExtBut it s.heap h') (q : CompEnd c s₀ it D C φ₀ H vs R) : R (.ok .next) { s with heap := h' } := by
  obtain ⟨h, t, e⟩ := w.st
  obtain ⟨its, k, a1, a2⟩ := w.ac
  have := q φ h' s.toks (w.sr.but w.ni T.i0 hs) (w.ext.thenBut T.iB hs) (Ns_at w.ns fun o e => hs C o (Ne.symm T.ic) e) ⟨its, k, hs D _ (Ne.symm T.id) a1, a2⟩ w.nd w.nc
  subst e
  exact this

section
variable {env : Env} {A : Around} {cs : Scope} {x : Str} {p : Pn} {px : Pos} {t : Tx} {e : Ex} {ifs : List Expr} {elt iter : Expr} {cpos : Pos} {s₀ s : Shared} {it D C : Addr} {φ₀ φ : Phi} {H H' : Hp} {acc vs : List V} {lo : Lo} {T : Result → Shared → Prop}

theorem comp_range (O : CxOk c) (S : ScOk sc env) (hA : Rm r A) (hn : c.nm p x) (hc : compOk sc cs x = true) (hdot : ∀ q, c.nm q (Str.ofString ".0") → False) (ht : SndI c r cs t ifs) (he : SndE c r cs e elt) (T3 : Three c s₀.heap it D C) (N₀ : EnvR c env φ₀ lo s₀.heap) (hz : vs.length ≤ 100000) {d : Int} {n : Nat} {i : Int}
    (q : CompEnd c s₀ it D C φ₀ H' vs T) (hx : compR p t e d n i lo H acc = .ok vs H') (w : CW c s₀ it D C (fun h => ∃ left : Int, left.toNat = n ∧ IsRangeIter h it i left d) φ₀ φ H acc s) :
    codeAny (model c.prog c.w) A (.compLoop (.ListComp elt [⟨.Name x px, iter, ifs, 0⟩] cs cpos) 0 (.ref it) (.ref D) (compEnvC cs (clOf env cs.names []) C env)) T s := by
  refine codeAny_compLoop_tests (fun n s => ∃ i H φ acc, compR p t e d n i lo H acc = .ok vs H' ∧ CW c s₀ it D C (fun h => ∃ left : Int, left.toNat = n ∧ IsRangeIter h it i left d) φ₀ φ H acc s) (fun n s hI => ?_) n ⟨i, H, φ, acc, hx, w⟩
  clear hx w
  obtain ⟨i, H, φ, acc, hx, w⟩ := hI
  obtain ⟨left, hnl, hit⟩ := w.at_
  cases n with
  | zero =>
    cases hx
    exact wpAny_pyNext_range_end hA.1 hit (by omega) fun h' hs => w.end T3 hs q
  | succ n =>
    have hl := compR_len _ hx
    obtain ⟨acc1, H1, h1, h2⟩ := bind_ok (show (compT p t e (.int i) lo H acc).bind (fun acc' H' => forceI (Int.add i d) fun j => compR p t e d n j lo H' acc') = .ok vs H' from hx)
    rw [forceI_eq] at h2
    refine wpAny_pyNext_range_item hit (by omega) fun h' hit' hs => ?_
    have w' := w.touchI (tk := s.toks + 1) (P' := fun h => IsRangeIter h it (i + d) (left - 1) d) T3 hs.extBut hit' (some_ne hit')
    have hP : PAt it (fun h => IsRangeIter h it (i + d) (left - 1) d) := fun h h' o a b b' => b'.trans (b.symm.trans a)
    refine compTurn_R O S hA hn hc hdot ht he T3 hP N₀ (by omega) w' (.int i _) h1 fun φ' s' w2 => ?_
    exact ⟨n, Nat.lt_succ_self _, i + d, H1, φ', acc1, h2, ⟨w2.st, w2.sr, w2.ext, ⟨left - 1, by omega, w2.at_⟩, w2.there, w2.ns, w2.ac, w2.ni, w2.nd, w2.nc⟩⟩

theorem comp_seq (O : CxOk c) (S : ScOk sc env) (hA : Rm r A) (hn : c.nm p x) (hc : compOk sc cs x = true) (hdot : ∀ q, c.nm q (Str.ofString ".0") → False) (ht : SndI c r cs t ifs) (he : SndE c r cs e elt) (T3 : Three c s₀.heap it D C) (N₀ : EnvR c env φ₀ lo s₀.heap) (hz : vs.length ≤ 100000) {isT : Bool} {sq : Pn} {l : Addr} (hl : φ₀ sq = some l) {n i : Nat}
    (q : CompEnd c s₀ it D C φ₀ H' vs T) (hx : compL p t e isT sq n i lo H acc = .ok vs H') (w : CW c s₀ it D C (fun h => SeqIt h isT it l i) φ₀ φ H acc s) :
    codeAny (model c.prog c.w) A (.compLoop (.ListComp elt [⟨.Name x px, iter, ifs, 0⟩] cs cpos) 0 (.ref it) (.ref D) (compEnvC cs (clOf env cs.names []) C env)) T s := by
  refine codeAny_compLoop_tests (fun n s => ∃ i H φ acc, compL p t e isT sq n i lo H acc = .ok vs H' ∧ CW c s₀ it D C (fun h => SeqIt h isT it l i) φ₀ φ H acc s) (fun n s hI => ?_) n ⟨i, H, φ, acc, hx, w⟩
  clear hx w
  obtain ⟨i, H, φ, acc, hx, w⟩ := hI
  cases n with
  | zero => cases hx
  | succ n =>
    have hlen := compL_len _ hx
    obtain ⟨ws, h0, h1⟩ := opt_ok (show opt (seqAt isT sq H) (fun ws => @Option.rec V (fun _ => Mine.R (List V)) (.ok acc H) (fun v => (compT p t e v lo H acc).bind fun acc' H' => forceN (Nat.succ i) fun j => compL p t e isT sq n j lo H' acc') (nth ws i)) = .ok vs H' from hx)
    rw [nth_eq] at h1
    refine next_seq hA.1 w.sr (w.ext.sub _ _ hl) h0 w.at_ (fun v y h' hg z hit' hs => ?_) fun h' hg hs => ?_
    · rw [hg] at h1
      obtain ⟨acc1, H1, h1, h2⟩ := bind_ok h1
      rw [forceN_eq] at h2
      have w' := w.touchI (tk := s.toks) (P' := fun h => SeqIt h isT it l (i + 1)) T3 hs hit' hit'.there
      have hP : PAt it (fun h => SeqIt h isT it l (i + 1)) := fun h h' o a b b' => a.at b b'
      refine compTurn_R O S hA hn hc hdot ht he T3 hP N₀ (by omega) w' z h1 fun φ' s' w2 => ?_
      exact ⟨n, Nat.lt_succ_self _, i + 1, H1, φ', acc1, h2, w2⟩
    · rw [hg] at h1
      cases h1
      exact w.end T3 hs q
end

/-- the whole of it, up to what becomes of the new list -/
theorem comp_R (O : CxOk c) {env : Env} (S : ScOk sc env) {A : Around} (hA : Rm r A) {cs : Scope} {x : Str} {p : Pn} {px cpos pos : Pos} (hn : c.nm p x) (hc : compOk sc cs x = true) (hdot : ∀ q, c.nm q (Str.ofString ".0") → False) {t : Tx} {el it : Ex} {ifs : List Expr} {elt iter : Expr}
    (ht : SndI c r cs t ifs) (he : SndE c r cs el elt) (hi : SndE c r sc it iter) (hset : notSet iter = true) {lo : Lo} {H H1 H2 : Hp} {sv : V} {vs : List V} (h1 : it lo H = .ok sv H1) (h2 : compV p t el sv lo H1 = .ok vs H2) (hz : vs.length ≤ 100000) {φ : Phi} {s : Shared} {E : Value → Shared → Prop} {use : Option (Value → Sem Unit)} {Q : Value → Shared → Prop}
    (R : SR c φ H s.heap) (N : EnvR c env φ lo s.heap)
    (q : ∀ φ' h' tk D C, SR c φ' H2 h' → Ext noX φ s.heap φ' h' → (∃ m, h'.Ns C m) → (∃ its k, IsL h' D its k ∧ All2 (VR c φ') vs its.toList) → (∀ n, φ' n ≠ some D) → (∀ n, φ' n ≠ some C) → s.heap.get? D = none → s.heap.get? C = none → D ≠ C → c.h₀.get? D = none → c.h₀.get? C = none →
      compPost (model c.prog c.w) A E use Q (.ref D) C (.ok .next) { s with heap := h', toks := tk }) :
    wpAny (model c.prog c.w) A (comprehension (.ListComp elt [⟨.Name x px, iter, ifs, 0⟩] cs cpos) cs env pos (newList []) false (eval iter env) use) Q E s := by
  have hc' := hc
  unfold compOk at hc'
  simp only [Bool.and_eq_true, beq_iff_eq] at hc'
  obtain ⟨⟨⟨hk, hall⟩, hxl⟩, hdup⟩ := hc'
  have hall := List.all_eq_true.mp hall
  have hfree : ∀ q ∈ cs.names, q.2 = .free → ∃ a, env.cells.lookup q.1 = some a := fun q hq hf => by
    have hp := hall q hq
    rw [hf] at hp
    dsimp only at hp
    rw [Bool.and_eq_true] at hp
    cases e2 : sc.names.lookup q.1 with
    | none => rw [e2] at hp; exact absurd hp.1 (by decide)
    | some k2 =>
      rw [e2] at hp
      have := S q.1 k2 e2
      have : isCl (env.kindOf q.1) := by cases k2 <;> first | exact this | exact absurd hp.1 (by decide)
      obtain ⟨a, _, e3, _⟩ := N.all _ this
      exact ⟨a, e3⟩
  have hnocell : ∀ y ∈ cs.names, y.2 ≠ .cell := fun y hy e => by
    have hp := hall y hy
    rw [e] at hp
    cases hp
  refine wpAny_comprehension_free rfl (not_set hset env) (closureFor_is hfree) hk (fun y hy hl => noDup_of_mem hdup (by obtain ⟨a, b⟩ := y; cases hl; exact hy)) ?_
  refine hi lo H sv H1 h1 env A φ s _ E S hA R N fun φ1 hp1 tk1 y R1 X1 z1 => ?_
  obtain ⟨⟨sq, o⟩, h3, hx⟩ := opt_ok h2
  obtain ⟨sq', e3, h4⟩ := asRef_ok h3
  subst e3
  obtain ⟨o', h5, h6⟩ := opt1_ok h4
  cases h6
  have N1 := N.ext X1
  -- the list and the frame are laid down
  have lay : ∀ (itv : Addr) (h' : Heap) (P : Heap → Prop), PAt itv P → (∀ b o, hp1.get? b = some o → h'.get? b = some o) → ItOk c env hp1 itv → Walk c env { s with heap := hp1, toks := tk1 } itv P φ1 φ1 lo H1 { s with heap := h', toks := tk1 } →
      (∀ D C s', Three c hp1 itv D C → CW c { s with heap := hp1, toks := tk1 } itv D C P φ1 φ1 H1 [] s' → CompEnd c { s with heap := hp1, toks := tk1 } itv D C φ1 H2 vs (compPost (model c.prog c.w) A E use Q (.ref D) C) →
        codeAny (model c.prog c.w) A (.compLoop (.ListComp elt [⟨.Name x px, iter, ifs, 0⟩] cs cpos) 0 (.ref itv) (.ref D) (compEnvC cs (clOf env cs.names []) C env)) (compPost (model c.prog c.w) A E use Q (.ref D) C) s') →
      (∀ (s' : Shared) (Q' : Value → Shared → Prop) (E' : Value → Shared → Prop), P s'.heap → Q' (.ref itv) s' → wpAny (model c.prog c.w) A (pyIter (.ref itv)) Q' E' s') →
      wpAny (model c.prog c.w) A (newList []) (fun acc s₃ => wpAny (model c.prog c.w) A (newFunctionEnv cs env.globals (clOf env cs.names []) [] env.qual none .none (some env)) (fun cenv s₄ =>
        codeAny (model c.prog c.w) A (.compStart (.ListComp elt [⟨.Name x px, iter, ifs, 0⟩] cs cpos) 0 (.ref itv) acc { cenv with scope := relabel cs env }) (compPost (model c.prog c.w) A E use Q acc cenv.locals) s₄) E s₃) E { s with heap := h', toks := tk1 } := by
    intro itv h' P hP kg I w loop self
    refine wpAny_newObj_type (wpAny_newFunctionEnv hnocell (by intro y hy; simp at hy) (fun h2 hns2 hsb2 => ?_) hk)
    dsimp only at hns2 hsb2 ⊢
    have hD := get_size h'
    have hDp : hp1.get? h'.objs.size = none := by
      cases e : hp1.get? h'.objs.size with
      | none => rfl
      | some o => exact absurd hD (w.ext.live _ (some_ne e))
    generalize hH3 : h'.push { cls := .type "list", dict := none, data := .seq ([] : List Value).toArray } = h3 at hns2 hsb2 ⊢
    have k3 : ∀ b o, h'.get? b = some o → h3.get? b = some o := fun b o e => hH3 ▸ Heap.get?_push_of_some _ e
    have hD3 : IsL h3 h'.objs.size #[] 0 := by subst hH3; exact Heap.get?_push_size _ rfl
    have hC := get_size h3
    have hC' : h'.get? h3.objs.size = none := by
      cases e : h'.get? h3.objs.size with
      | none => rfl
      | some o => have := k3 _ _ e; rw [hC] at this; cases this
    have hCp : hp1.get? h3.objs.size = none := by
      cases e : hp1.get? h3.objs.size with
      | none => rfl
      | some o => exact absurd hC' (w.ext.live _ (some_ne e))
    have hDC : h'.objs.size ≠ h3.objs.size := fun e => by have := hD3; rw [IsL, e, hC] at this; cases this
    have b0 : ∀ a, hp1.get? a = none → c.h₀.get? a = none := fun a e => by
      cases q : c.h₀.get? a with
      | none => rfl
      | some y => have := R1.base _ _ q; rw [e] at this; cases this
    have k2 : ∀ b o, h3.get? b = some o → h2.get? b = some o := fun b o e => hsb2.extBut b o (Nat.ne_of_lt (Heap.lt_size e)) (Heap.get?_push_of_some _ e)
    have kk : ∀ b o, h'.get? b = some o → h2.get? b = some o := fun b o e => k2 b o (k3 b o e)
    obtain ⟨oi, hoi⟩ := ne_some w.there
    have hoi' : h'.get? itv = some oi := hoi
    have T3 : Three c hp1 itv h'.objs.size h3.objs.size := ⟨I.base, b0 _ hDp, b0 _ hCp, I.new, hDp, hCp, (fun e => by rw [e, hD] at hoi'; cases hoi'), (fun e => by rw [e, hC'] at hoi'; cases hoi'), hDC⟩
    have W : CW c { s with heap := hp1, toks := tk1 } itv h'.objs.size h3.objs.size P φ1 φ1 H1 [] { s with heap := h2, toks := tk1 + ([] : List (Str × Value)).length } :=
      ⟨⟨_, _, rfl⟩, w.sr.grown kk, .grown fun b o e => kk b o (kg b o e), hP _ _ oi w.at_ hoi (kk _ _ hoi'), some_ne (kk _ _ hoi'), ⟨_, hns2⟩, ⟨#[], 0, k2 _ _ hD3, .nil⟩, w.no, R1.notIn hDp, R1.notIn hCp⟩
    have CE : CompEnd c { s with heap := hp1, toks := tk1 } itv h'.objs.size h3.objs.size φ1 H2 vs (compPost (model c.prog c.w) A E use Q (.ref h'.objs.size) h3.objs.size) := fun φ' h'' tk R' X' nsC ac nd nc => by
      have back : ∀ a, hp1.get? a = none → s.heap.get? a = none := fun a e => by
        cases q : s.heap.get? a with
        | none => rfl
        | some o => exact absurd e (X1.live _ (some_ne q))
      exact q φ' h'' tk _ _ R' (X1.trans X') nsC ac nd nc (back _ hDp) (back _ hCp) hDC (b0 _ hDp) (b0 _ hCp)
    have L := loop _ _ _ T3 W CE
    exact codeAny_compStart_list L (self _ _ _ W.at_ L)
  refine open_R (s := { s with heap := hp1, toks := tk1 }) R1 N1 h5 z1 (fun a b d h' kg e I w => ?_) (fun isT ws l h' kg hv e hl I w => ?_) ?_
  · subst e
    change (forceN _ fun m => compR p t el d m a lo H1 []) = _ at hx
    rw [forceN_eq] at hx
    refine lay _ h' _ (fun h h' o a b b' => b'.trans (b.symm.trans a)) kg I w (fun D C s' T3 W CE => ?_) fun s' Q' E' hp hq => wpAny_pyIter_rangeiter hp hq
    exact comp_range O S hA hn hc hdot ht he T3 N1 hz CE hx ⟨W.st, W.sr, W.ext, ⟨_, rfl, W.at_⟩, W.there, W.ns, W.ac, W.ni, W.nd, W.nc⟩
  · subst e
    refine lay _ h' _ (fun h h' o a b b' => a.at b b') kg I w (fun D C s' T3 W CE => ?_) fun s' Q' E' hp hq => ?_
    · cases isT with
      | true =>
        change (forceN _ fun m => compL p t el true sq m 0 lo H1 []) = _ at hx
        rw [forceN_eq] at hx
        exact comp_seq O S hA hn hc hdot ht he T3 N1 hz hl CE hx W
      | false =>
        change (forceN _ fun m => compL p t el false sq m 0 lo H1 []) = _ at hx
        rw [forceN_eq] at hx
        exact comp_seq O S hA hn hc hdot ht he T3 N1 hz hl CE hx W
    · cases hp with
      | lst h => exact wpAny_pyIter_listiter h hq
      | tup h => exact wpAny_pyIter_tupleiter h hq
  · cases o with
    | range a b d => exact .inl ⟨a, b, d, rfl⟩
    | list vs => exact .inr (.inl ⟨vs, rfl⟩)
    | tup vs => exact .inr (.inr ⟨vs, rfl⟩)
    | _ => cases hx
end
end Mine

namespace Mine
open PySem PySem.SeqAt PySem.W PySem.Calls PyProof.Rows

section
variable {c : Cx} {r : Nat} {sc : Scope}

theorem comp_ok {p : Pn} {it el : Ex} {t : Tx} {lo : Lo} {H H' : Hp} {v : V} (hx : e_comp p it t el lo H = .ok v H') : ∃ sv H1 vs H2, it lo H = .ok sv H1 ∧ compV p t el sv lo H1 = .ok vs H2 ∧ vs.length ≤ 100000 ∧ v = .ref H2.next ∧ H' = ⟨H2.next.succ, H2.tr.set H2.next (.list vs)⟩ := by
  obtain ⟨sv, H1, h1, hx⟩ := bind_ok hx
  obtain ⟨vs, H2, h2, hx⟩ := bind_ok hx
  obtain ⟨g, hx⟩ := grd_ok hx
  cases hx
  have g := ble_le g
  rw [llen_eq] at g
  exact ⟨sv, H1, vs, H2, h1, h2, g, rfl, rfl⟩

theorem snd_comp (O : CxOk c) {cs : Scope} {x : Str} {p : Pn} {px cpos : Pos} (hn : c.nm p x) (hc : compOk sc cs x = true) (hdot : ∀ q, c.nm q (Str.ofString ".0") → False) {t : Tx} {el it : Ex} {ifs : List Expr} {elt iter : Expr}
    (ht : SndI c r cs t ifs) (he : SndE c r cs el elt) (hi : SndE c r sc it iter) (hset : notSet iter = true) : SndE c r sc (e_comp p it t el) (.ListComp elt [⟨.Name x px, iter, ifs, 0⟩] cs cpos) := by
  intro lo H v H' hx env A φ s Q E S hA R N q
  obtain ⟨sv, H1, vs, H2, h1, h2, hz, e1, e2⟩ := comp_ok hx
  subst e1 e2
  rw [eval_ListComp]
  refine comp_R O S hA hn hc hdot ht he hi hset h1 h2 hz R N fun φ' h' tk D C R' X' nsC ac nd nc dB cB dc d0 c0 => ?_
  obtain ⟨m, nsC⟩ := nsC
  obtain ⟨its, k, a1, a2⟩ := ac
  refine ⟨m, nsC, fun h'' hs => ?_⟩
  have R2 := R'.but nc c0 hs.extBut
  have R3 := R2.adopt (o := .list vs) nd d0 (.list (hs.extBut D _ dc a1) (a2.mono fun _ _ => VR.mono (R'.sub _)))
  exact q _ h'' tk _ R3 ((X'.thenBut cB hs.extBut).adopt dB R'.fresh) (.ref Phi.put_self)

def swapOk (cs : Scope) (y : Str) (py cpos : Pos) : Bool := (py.line == cpos.line) && !(cs.names.any fun (n, k) => n == y && (k == .local || k == .cell))
theorem swap_local {elt : Expr} {g : List Comprehension} {cs : Scope} {y : Str} {py cpos : Pos} {l : Nat} {env : Env} (hf : env.scope.kind = .function) (hk : env.kindOf y = some .local) (h : swapOk cs y py cpos = true) : swapsWith (.ListComp elt g cs cpos) (some (.Name y py)) l env = pure true := by
  unfold swapOk at h
  rw [Bool.and_eq_true] at h
  have hb : env.blockKind = .function := by unfold Env.blockKind; rw [hf]; rfl
  have e : swapsWith (.ListComp elt g cs cpos) (some (.Name y py)) l env = (pure (env.blockKind == .function && env.kindOf y == some .local && py.line == cpos.line && !(cs.names.any fun (n, k) => n == y && (k == .local || k == .cell))) : Sem Bool) := rfl
  rw [e, hb, hk, h.1, h.2]
  rfl
theorem swap_cell {elt : Expr} {g : List Comprehension} {cs : Scope} {y : Str} {py cpos : Pos} {l : Nat} {env : Env} (hk : isCl (env.kindOf y)) : swapsWith (.ListComp elt g cs cpos) (some (.Name y py)) l env = pure false := by
  have e : swapsWith (.ListComp elt g cs cpos) (some (.Name y py)) l env = (pure (env.blockKind == .function && env.kindOf y == some .local && py.line == cpos.line && !(cs.names.any fun (n, k) => n == y && (k == .local || k == .cell))) : Sem Bool) := rfl
  rw [e]
  have h2 : (env.kindOf y == some .local) = false := by rcases hk with h | h <;> (rw [h]; decide)
  rw [h2, Bool.and_false]
  rfl

/-- a comprehension's list bound to a name that is a cell -/
theorem snd_asgC_cell (O : CxOk c) {q : Pn} {y : Str} {e : Ex} {elt : Expr} {g : List Comprehension} {cs : Scope} {cpos pos' pos} (hn : c.nm q y) (hs : sc.names.lookup y = some .cell) (h : SndE c r sc e (.ListComp elt g cs cpos)) :
    SndS c r sc (s_asg q e) (.Assign [.Name y pos'] (.ListComp elt g cs cpos) pos) := by
  intro lo H f lo' H' hx env A φ s Q E S hA R N k
  obtain ⟨v, H1, h1, hx⟩ := bindS_ok hx
  cases hx
  have hk : isCl (env.kindOf y) := S y _ hs
  refine wpAny_Assign_Name (h lo H v _ h1 env A φ s _ E S hA R N fun φ1 hp1 tk1 y R1 X1 z1 => ?_) (swap_cell hk)
  exact store_R O hn (.inr hk) R1 (N.ext X1) z1 fun h' tk R2 X2 N2 => k φ1 h' tk _ R2 (X1.of_no.trans X2) N2 .next

/-- and to a local one: the stores are exchanged -/
theorem snd_asgC_local (O : CxOk c) {q : Pn} {y : Str} (hny : c.nm q y) (hs : sc.names.lookup y = some .local) {cs : Scope} {x : Str} {p : Pn} {px py cpos pos : Pos} (hn : c.nm p x) (hc : compOk sc cs x = true) (hsw : swapOk cs y py cpos = true) (hdot : ∀ q, c.nm q (Str.ofString ".0") → False) {t : Tx} {el it : Ex} {ifs : List Expr} {elt iter : Expr}
    (ht : SndI c r cs t ifs) (he : SndE c r cs el elt) (hi : SndE c r sc it iter) (hset : notSet iter = true) : SndS c r sc (s_asg q (e_comp p it t el)) (.Assign [.Name y py] (.ListComp elt [⟨.Name x px, iter, ifs, 0⟩] cs cpos) pos) := by
  intro lo H f lo' H' hx env A φ s Q E S hA R N k
  obtain ⟨v, H1', h0, hx⟩ := bindS_ok hx
  cases hx
  obtain ⟨sv, H1, vs, H2, h1, h2, hz, e1, e2⟩ := comp_ok h0
  subst e1 e2
  have hk : env.kindOf y = some .local := S y _ hs
  rw [exec_Assign_Name_used _ _ _ _ (swap_local N.kind hk hsw)]
  refine wpAny_bind (wpAny_standAt (wpAny_bind ?_))
  show wpAny _ A (do let _ ← comprehension (.ListComp elt [⟨.Name x px, iter, ifs, 0⟩] cs cpos) cs env _ (newList []) false (eval iter env) (some (assign (.Name y py) env))) _ _ s
  refine wpAny_bind (wpAny_mono (comp_R O S hA hn hc hdot ht he hi hset (use := some (assign (.Name y py) env)) (Q := fun _ s' => Q .next s') h1 h2 hz R N fun φ' h' tk D C R' X' nsC ac nd nc dB cB dc d0 c0 => ?_) (fun _ s' hq => wpAny_pure (wpAny_pure hq)) fun _ _ e => e)
  obtain ⟨m, nsC⟩ := nsC
  obtain ⟨its, k1, a1, a2⟩ := ac
  have R3 := R'.adopt (o := .list vs) nd d0 (.list a1 (a2.mono fun _ _ => VR.mono (R'.sub _)))
  have X3 := X'.adopt dB R'.fresh
  have hoC : ¬ ownX env C := fun q => (N.own _ q).2.2 cB
  show wpAny _ A (assign (.Name y py) env (.ref D)) _ _ _
  refine wpAny_assign_Name (store_R O (s := { s with heap := h', toks := tk }) hny (.inl hk) R3 (N.ext X3) (.ref Phi.put_self) fun h2 tk2 R4 X4 N4 => ?_)
  have nC : ∀ n, φ'.put H2.next D n ≠ some C := fun n e => by
    by_cases q : n = H2.next
    · rw [q, Phi.put_self] at e; cases e; exact dc rfl
    · rw [Phi.put_ne q] at e; exact nc n e
  obtain ⟨m2, nsC2⟩ : ∃ m, h2.Ns C m := by
    obtain ⟨o, es, ep, a, b⟩ := nsC
    exact ⟨m, o, es, ep, X4.keep C o a nC hoC, b⟩
  refine ⟨m2, nsC2, fun h3 hs3 => ?_⟩
  exact k _ h3 tk2 _ (R4.but nC c0 hs3.extBut) ((X3.of_no.trans X4).thenBut cB hs3.extBut) (N4.but hoC hs3.extBut) .next
end
end Mine

namespace Mine
open PySem PySem.SeqAt PySem.W PySem.Calls PyProof.Rows

def nmT : List (Pn × Str) := [(.e, Str.ofString "geo"), ((.o .e), Str.ofString "square"), ((.i .e), Str.ofString "size"), ((.o (.o .e)), Str.ofString "self"), ((.i (.o .e)), Str.ofString "piece"), ((.o (.i .e)), Str.ofString "files"), ((.i (.i .e)), Str.ofString "strong"), ((.o (.o (.o .e))), Str.ofString "kind"), ((.i (.o (.o .e))), Str.ofString "n"), ((.o (.i (.o .e))), Str.ofString "goal"), ((.i (.i (.o .e))), Str.ofString "d"), ((.o (.o (.i .e))), Str.ofString "weak"), ((.i (.o (.i .e))), Str.ofString "table"), ((.o (.i (.i .e))), Str.ofString "behind"), ((.i (.i (.i .e))), Str.ofString "side"), ((.o (.o (.o (.o .e)))), Str.ofString "king"), ((.i (.o (.o (.o .e)))), Str.ofString "occupied"), ((.o (.i (.o (.o .e)))), Str.ofString "place"), ((.i (.i (.o (.o .e)))), Str.ofString "pos"), ((.o (.o (.i (.o .e)))), Str.ofString "b"), ((.i (.o (.i (.o .e)))), Str.ofString "places"), ((.o (.i (.i (.o .e)))), Str.ofString "ranks"), ((.i (.i (.i (.o .e)))), Str.ofString "kinds"), ((.o (.o (.o (.i .e)))), Str.ofString "out"), ((.i (.o (.o (.i .e)))), Str.ofString "after"), ((.o (.i (.o (.i .e)))), Str.ofString "ray"), ((.i (.i (.o (.i .e)))), Str.ofString "file_masks"), ((.o (.o (.i (.i .e)))), Str.ofString "found"), ((.i (.o (.i (.i .e)))), Str.ofString "values"), ((.o (.i (.i (.i .e)))), Str.ofString "base"), ((.i (.i (.i (.i .e)))), Str.ofString "full"), ((.o (.o (.o (.o (.o .e))))), Str.ofString "rays"), ((.i (.o (.o (.o (.o .e))))), Str.ofString "sides"), ((.o (.i (.o (.o (.o .e))))), Str.ofString "edge"), ((.i (.i (.o (.o (.o .e))))), Str.ofString "has_castling"), ((.o (.o (.i (.o (.o .e))))), Str.ofString "k"), ((.i (.o (.i (.o (.o .e))))), Str.ofString "m"), ((.o (.i (.i (.o (.o .e))))), Str.ofString "men"), ((.i (.i (.i (.o (.o .e))))), Str.ofString "row"), ((.o (.o (.o (.i (.o .e))))), Str.ofString "corner"), ((.i (.o (.o (.i (.o .e))))), Str.ofString "has_double"), ((.o (.i (.o (.i (.o .e))))), Str.ofString "index"), ((.i (.i (.o (.i (.o .e))))), Str.ofString "lost"), ((.o (.o (.i (.i (.o .e))))), Str.ofString "queue"), ((.i (.o (.i (.i (.o .e))))), Str.ofString "stop"), ((.o (.i (.i (.i (.o .e))))), Str.ofString "way"), ((.i (.i (.i (.i (.o .e))))), Str.ofString "at"), ((.o (.o (.o (.o (.i .e))))), Str.ofString "board"), ((.i (.o (.o (.o (.i .e))))), Str.ofString "cells"), ((.o (.i (.o (.o (.i .e))))), Str.ofString "ep"), ((.i (.i (.o (.o (.i .e))))), Str.ofString "half"), ((.o (.o (.i (.o (.i .e))))), Str.ofString "left"), ((.i (.o (.i (.o (.i .e))))), Str.ofString "pawn"), ((.o (.i (.i (.o (.i .e))))), Str.ofString "pieces"), ((.i (.i (.i (.o (.i .e))))), Str.ofString "rank_masks"), ((.o (.o (.o (.i (.i .e))))), Str.ofString "rights"), ((.i (.o (.o (.i (.i .e))))), Str.ofString "rights_lost"), ((.o (.i (.o (.i (.i .e))))), Str.ofString "s"), ((.i (.i (.o (.i (.i .e))))), Str.ofString "start"), ((.o (.o (.i (.i (.i .e))))), Str.ofString "steps"), ((.i (.o (.i (.i (.i .e))))), Str.ofString "zob"), ((.o (.i (.i (.i (.i .e))))), Str.ofString "zone"), ((.i (.i (.i (.i (.i .e))))), Str.ofString "before"), ((.o (.o (.o (.o (.o (.o .e)))))), Str.ofString "begun"), ((.i (.o (.o (.o (.o (.o .e)))))), Str.ofString "bit"), ((.o (.i (.o (.o (.o (.o .e)))))), Str.ofString "castles"), ((.i (.i (.o (.o (.o (.o .e)))))), Str.ofString "column"), ((.o (.o (.i (.o (.o (.o .e)))))), Str.ofString "far"), ((.i (.o (.i (.o (.o (.o .e)))))), Str.ofString "first"), ((.o (.i (.i (.o (.o (.o .e)))))), Str.ofString "free"), ((.i (.i (.i (.o (.o (.o .e)))))), Str.ofString "knight"), ((.o (.o (.o (.i (.o (.o .e)))))), Str.ofString "near"), ((.i (.o (.o (.i (.o (.o .e)))))), Str.ofString "not_first"), ((.o (.i (.o (.i (.o (.o .e)))))), Str.ofString "not_last"), ((.i (.i (.o (.i (.o (.o .e)))))), Str.ofString "number"), ((.o (.o (.i (.i (.o (.o .e)))))), Str.ofString "order"), ((.i (.o (.i (.i (.o (.o .e)))))), Str.ofString "plies"), ((.o (.i (.i (.i (.o (.o .e)))))), Str.ofString "r"), ((.i (.i (.i (.i (.o (.o .e)))))), Str.ofString "seen"), ((.o (.o (.o (.o (.i (.o .e)))))), Str.ofString "told"), ((.i (.o (.o (.o (.i (.o .e)))))), Str.ofString "where"), ((.o (.i (.o (.o (.i (.o .e)))))), Str.ofString "boards"), ((.i (.i (.o (.o (.i (.o .e)))))), Str.ofString "checked"), ((.o (.o (.i (.o (.i (.o .e)))))), Str.ofString "delta"), ((.i (.o (.i (.o (.i (.o .e)))))), Str.ofString "f"), ((.o (.i (.i (.o (.i (.o .e)))))), Str.ofString "inner"), ((.i (.i (.i (.o (.i (.o .e)))))), Str.ofString "key"), ((.o (.o (.o (.i (.i (.o .e)))))), Str.ofString "not_first_two"), ((.i (.o (.o (.i (.i (.o .e)))))), Str.ofString "not_last_two"), ((.o (.i (.o (.i (.i (.o .e)))))), Str.ofString "other"), ((.i (.i (.o (.i (.i (.o .e)))))), Str.ofString "script"), ((.o (.o (.i (.i (.i (.o .e)))))), Str.ofString "slides"), ((.i (.o (.i (.i (.i (.o .e)))))), Str.ofString "history"), ((.o (.i (.i (.i (.i (.o .e)))))), Str.ofString "origin")]
def glT : List (Str × V) := [(Str.ofString "WHITE", (.int 0)), (Str.ofString "PAWN", (.int 1)), (Str.ofString "KNIGHT", (.int 2)), (Str.ofString "BISHOP", (.int 3)), (Str.ofString "ROOK", (.int 4)), (Str.ofString "QUEEN", (.int 5)), (Str.ofString "KING", (.int 6)), (Str.ofString "EMPTY", (.int 0)), (Str.ofString "STEP_FILES", (.ctup [0, 1, 0, (-1), 1, 1, (-1), (-1)])), (Str.ofString "STEP_RANKS", (.ctup [1, 0, (-1), 0, 1, (-1), (-1), 1])), (Str.ofString "NOT_A_PLACE", (.int (-2))), (Str.ofString "NO_MATE", (.int (-1))), (Str.ofString "OUTSIDE", (.int (-1))), (Str.ofString "STRONG_MOVES", (.int 0)), (Str.ofString "WEAK_MOVES", (.int 1))]
def nmR (p : Pn) (x : Str) : Prop := ∃ k : Nat, nmT[k]? = some (p, x)
def glR (x : Str) (v : V) : Prop := ∃ k : Nat, glT[k]? = some (x, v)
theorem n_0 : nmR .e (Str.ofString "geo") := ⟨0, rfl⟩
theorem n_1 : nmR (.o .e) (Str.ofString "square") := ⟨1, rfl⟩
theorem n_2 : nmR (.i .e) (Str.ofString "size") := ⟨2, rfl⟩
theorem n_3 : nmR (.o (.o .e)) (Str.ofString "self") := ⟨3, rfl⟩
theorem n_4 : nmR (.i (.o .e)) (Str.ofString "piece") := ⟨4, rfl⟩
theorem n_5 : nmR (.o (.i .e)) (Str.ofString "files") := ⟨5, rfl⟩
theorem n_6 : nmR (.i (.i .e)) (Str.ofString "strong") := ⟨6, rfl⟩
theorem n_7 : nmR (.o (.o (.o .e))) (Str.ofString "kind") := ⟨7, rfl⟩
theorem n_8 : nmR (.i (.o (.o .e))) (Str.ofString "n") := ⟨8, rfl⟩
theorem n_9 : nmR (.o (.i (.o .e))) (Str.ofString "goal") := ⟨9, rfl⟩
theorem n_10 : nmR (.i (.i (.o .e))) (Str.ofString "d") := ⟨10, rfl⟩
theorem n_11 : nmR (.o (.o (.i .e))) (Str.ofString "weak") := ⟨11, rfl⟩
theorem n_12 : nmR (.i (.o (.i .e))) (Str.ofString "table") := ⟨12, rfl⟩
theorem n_13 : nmR (.o (.i (.i .e))) (Str.ofString "behind") := ⟨13, rfl⟩
theorem n_14 : nmR (.i (.i (.i .e))) (Str.ofString "side") := ⟨14, rfl⟩
theorem n_15 : nmR (.o (.o (.o (.o .e)))) (Str.ofString "king") := ⟨15, rfl⟩
theorem n_16 : nmR (.i (.o (.o (.o .e)))) (Str.ofString "occupied") := ⟨16, rfl⟩
theorem n_17 : nmR (.o (.i (.o (.o .e)))) (Str.ofString "place") := ⟨17, rfl⟩
theorem n_18 : nmR (.i (.i (.o (.o .e)))) (Str.ofString "pos") := ⟨18, rfl⟩
theorem n_19 : nmR (.o (.o (.i (.o .e)))) (Str.ofString "b") := ⟨19, rfl⟩
theorem n_20 : nmR (.i (.o (.i (.o .e)))) (Str.ofString "places") := ⟨20, rfl⟩
theorem n_21 : nmR (.o (.i (.i (.o .e)))) (Str.ofString "ranks") := ⟨21, rfl⟩
theorem n_22 : nmR (.i (.i (.i (.o .e)))) (Str.ofString "kinds") := ⟨22, rfl⟩
theorem n_23 : nmR (.o (.o (.o (.i .e)))) (Str.ofString "out") := ⟨23, rfl⟩
theorem n_24 : nmR (.i (.o (.o (.i .e)))) (Str.ofString "after") := ⟨24, rfl⟩
theorem n_25 : nmR (.o (.i (.o (.i .e)))) (Str.ofString "ray") := ⟨25, rfl⟩
theorem n_26 : nmR (.i (.i (.o (.i .e)))) (Str.ofString "file_masks") := ⟨26, rfl⟩
theorem n_27 : nmR (.o (.o (.i (.i .e)))) (Str.ofString "found") := ⟨27, rfl⟩
theorem n_28 : nmR (.i (.o (.i (.i .e)))) (Str.ofString "values") := ⟨28, rfl⟩
theorem n_29 : nmR (.o (.i (.i (.i .e)))) (Str.ofString "base") := ⟨29, rfl⟩
theorem n_30 : nmR (.i (.i (.i (.i .e)))) (Str.ofString "full") := ⟨30, rfl⟩
theorem n_31 : nmR (.o (.o (.o (.o (.o .e))))) (Str.ofString "rays") := ⟨31, rfl⟩
theorem n_32 : nmR (.i (.o (.o (.o (.o .e))))) (Str.ofString "sides") := ⟨32, rfl⟩
theorem n_33 : nmR (.o (.i (.o (.o (.o .e))))) (Str.ofString "edge") := ⟨33, rfl⟩
theorem n_34 : nmR (.i (.i (.o (.o (.o .e))))) (Str.ofString "has_castling") := ⟨34, rfl⟩
theorem n_35 : nmR (.o (.o (.i (.o (.o .e))))) (Str.ofString "k") := ⟨35, rfl⟩
theorem n_36 : nmR (.i (.o (.i (.o (.o .e))))) (Str.ofString "m") := ⟨36, rfl⟩
theorem n_37 : nmR (.o (.i (.i (.o (.o .e))))) (Str.ofString "men") := ⟨37, rfl⟩
theorem n_38 : nmR (.i (.i (.i (.o (.o .e))))) (Str.ofString "row") := ⟨38, rfl⟩
theorem n_39 : nmR (.o (.o (.o (.i (.o .e))))) (Str.ofString "corner") := ⟨39, rfl⟩
theorem n_40 : nmR (.i (.o (.o (.i (.o .e))))) (Str.ofString "has_double") := ⟨40, rfl⟩
theorem n_41 : nmR (.o (.i (.o (.i (.o .e))))) (Str.ofString "index") := ⟨41, rfl⟩
theorem n_42 : nmR (.i (.i (.o (.i (.o .e))))) (Str.ofString "lost") := ⟨42, rfl⟩
theorem n_43 : nmR (.o (.o (.i (.i (.o .e))))) (Str.ofString "queue") := ⟨43, rfl⟩
theorem n_44 : nmR (.i (.o (.i (.i (.o .e))))) (Str.ofString "stop") := ⟨44, rfl⟩
theorem n_45 : nmR (.o (.i (.i (.i (.o .e))))) (Str.ofString "way") := ⟨45, rfl⟩
theorem n_46 : nmR (.i (.i (.i (.i (.o .e))))) (Str.ofString "at") := ⟨46, rfl⟩
theorem n_47 : nmR (.o (.o (.o (.o (.i .e))))) (Str.ofString "board") := ⟨47, rfl⟩
theorem n_48 : nmR (.i (.o (.o (.o (.i .e))))) (Str.ofString "cells") := ⟨48, rfl⟩
theorem n_49 : nmR (.o (.i (.o (.o (.i .e))))) (Str.ofString "ep") := ⟨49, rfl⟩
theorem n_50 : nmR (.i (.i (.o (.o (.i .e))))) (Str.ofString "half") := ⟨50, rfl⟩
theorem n_51 : nmR (.o (.o (.i (.o (.i .e))))) (Str.ofString "left") := ⟨51, rfl⟩
theorem n_52 : nmR (.i (.o (.i (.o (.i .e))))) (Str.ofString "pawn") := ⟨52, rfl⟩
theorem n_53 : nmR (.o (.i (.i (.o (.i .e))))) (Str.ofString "pieces") := ⟨53, rfl⟩
theorem n_54 : nmR (.i (.i (.i (.o (.i .e))))) (Str.ofString "rank_masks") := ⟨54, rfl⟩
theorem n_55 : nmR (.o (.o (.o (.i (.i .e))))) (Str.ofString "rights") := ⟨55, rfl⟩
theorem n_56 : nmR (.i (.o (.o (.i (.i .e))))) (Str.ofString "rights_lost") := ⟨56, rfl⟩
theorem n_57 : nmR (.o (.i (.o (.i (.i .e))))) (Str.ofString "s") := ⟨57, rfl⟩
theorem n_58 : nmR (.i (.i (.o (.i (.i .e))))) (Str.ofString "start") := ⟨58, rfl⟩
theorem n_59 : nmR (.o (.o (.i (.i (.i .e))))) (Str.ofString "steps") := ⟨59, rfl⟩
theorem n_60 : nmR (.i (.o (.i (.i (.i .e))))) (Str.ofString "zob") := ⟨60, rfl⟩
theorem n_61 : nmR (.o (.i (.i (.i (.i .e))))) (Str.ofString "zone") := ⟨61, rfl⟩
theorem n_62 : nmR (.i (.i (.i (.i (.i .e))))) (Str.ofString "before") := ⟨62, rfl⟩
theorem n_63 : nmR (.o (.o (.o (.o (.o (.o .e)))))) (Str.ofString "begun") := ⟨63, rfl⟩
theorem n_64 : nmR (.i (.o (.o (.o (.o (.o .e)))))) (Str.ofString "bit") := ⟨64, rfl⟩
theorem n_65 : nmR (.o (.i (.o (.o (.o (.o .e)))))) (Str.ofString "castles") := ⟨65, rfl⟩
theorem n_66 : nmR (.i (.i (.o (.o (.o (.o .e)))))) (Str.ofString "column") := ⟨66, rfl⟩
theorem n_67 : nmR (.o (.o (.i (.o (.o (.o .e)))))) (Str.ofString "far") := ⟨67, rfl⟩
theorem n_68 : nmR (.i (.o (.i (.o (.o (.o .e)))))) (Str.ofString "first") := ⟨68, rfl⟩
theorem n_69 : nmR (.o (.i (.i (.o (.o (.o .e)))))) (Str.ofString "free") := ⟨69, rfl⟩
theorem n_70 : nmR (.i (.i (.i (.o (.o (.o .e)))))) (Str.ofString "knight") := ⟨70, rfl⟩
theorem n_71 : nmR (.o (.o (.o (.i (.o (.o .e)))))) (Str.ofString "near") := ⟨71, rfl⟩
theorem n_72 : nmR (.i (.o (.o (.i (.o (.o .e)))))) (Str.ofString "not_first") := ⟨72, rfl⟩
theorem n_73 : nmR (.o (.i (.o (.i (.o (.o .e)))))) (Str.ofString "not_last") := ⟨73, rfl⟩
theorem n_74 : nmR (.i (.i (.o (.i (.o (.o .e)))))) (Str.ofString "number") := ⟨74, rfl⟩
theorem n_75 : nmR (.o (.o (.i (.i (.o (.o .e)))))) (Str.ofString "order") := ⟨75, rfl⟩
theorem n_76 : nmR (.i (.o (.i (.i (.o (.o .e)))))) (Str.ofString "plies") := ⟨76, rfl⟩
theorem n_77 : nmR (.o (.i (.i (.i (.o (.o .e)))))) (Str.ofString "r") := ⟨77, rfl⟩
theorem n_78 : nmR (.i (.i (.i (.i (.o (.o .e)))))) (Str.ofString "seen") := ⟨78, rfl⟩
theorem n_79 : nmR (.o (.o (.o (.o (.i (.o .e)))))) (Str.ofString "told") := ⟨79, rfl⟩
theorem n_80 : nmR (.i (.o (.o (.o (.i (.o .e)))))) (Str.ofString "where") := ⟨80, rfl⟩
theorem n_81 : nmR (.o (.i (.o (.o (.i (.o .e)))))) (Str.ofString "boards") := ⟨81, rfl⟩
theorem n_82 : nmR (.i (.i (.o (.o (.i (.o .e)))))) (Str.ofString "checked") := ⟨82, rfl⟩
theorem n_83 : nmR (.o (.o (.i (.o (.i (.o .e)))))) (Str.ofString "delta") := ⟨83, rfl⟩
theorem n_84 : nmR (.i (.o (.i (.o (.i (.o .e)))))) (Str.ofString "f") := ⟨84, rfl⟩
theorem n_85 : nmR (.o (.i (.i (.o (.i (.o .e)))))) (Str.ofString "inner") := ⟨85, rfl⟩
theorem n_86 : nmR (.i (.i (.i (.o (.i (.o .e)))))) (Str.ofString "key") := ⟨86, rfl⟩
theorem n_87 : nmR (.o (.o (.o (.i (.i (.o .e)))))) (Str.ofString "not_first_two") := ⟨87, rfl⟩
theorem n_88 : nmR (.i (.o (.o (.i (.i (.o .e)))))) (Str.ofString "not_last_two") := ⟨88, rfl⟩
theorem n_89 : nmR (.o (.i (.o (.i (.i (.o .e)))))) (Str.ofString "other") := ⟨89, rfl⟩
theorem n_90 : nmR (.i (.i (.o (.i (.i (.o .e)))))) (Str.ofString "script") := ⟨90, rfl⟩
theorem n_91 : nmR (.o (.o (.i (.i (.i (.o .e)))))) (Str.ofString "slides") := ⟨91, rfl⟩
theorem n_92 : nmR (.i (.o (.i (.i (.i (.o .e)))))) (Str.ofString "history") := ⟨92, rfl⟩
theorem n_93 : nmR (.o (.i (.i (.i (.i (.o .e)))))) (Str.ofString "origin") := ⟨93, rfl⟩
theorem g_0 : glR (Str.ofString "WHITE") (.int 0) := ⟨0, rfl⟩
theorem g_1 : glR (Str.ofString "PAWN") (.int 1) := ⟨1, rfl⟩
theorem g_2 : glR (Str.ofString "KNIGHT") (.int 2) := ⟨2, rfl⟩
theorem g_3 : glR (Str.ofString "BISHOP") (.int 3) := ⟨3, rfl⟩
theorem g_4 : glR (Str.ofString "ROOK") (.int 4) := ⟨4, rfl⟩
theorem g_5 : glR (Str.ofString "QUEEN") (.int 5) := ⟨5, rfl⟩
theorem g_6 : glR (Str.ofString "KING") (.int 6) := ⟨6, rfl⟩
theorem g_7 : glR (Str.ofString "EMPTY") (.int 0) := ⟨7, rfl⟩
theorem g_8 : glR (Str.ofString "STEP_FILES") (.ctup [0, 1, 0, (-1), 1, 1, (-1), (-1)]) := ⟨8, rfl⟩
theorem g_9 : glR (Str.ofString "STEP_RANKS") (.ctup [1, 0, (-1), 0, 1, (-1), (-1), 1]) := ⟨9, rfl⟩
theorem g_10 : glR (Str.ofString "NOT_A_PLACE") (.int (-2)) := ⟨10, rfl⟩
theorem g_11 : glR (Str.ofString "NO_MATE") (.int (-1)) := ⟨11, rfl⟩
theorem g_12 : glR (Str.ofString "OUTSIDE") (.int (-1)) := ⟨12, rfl⟩
theorem g_13 : glR (Str.ofString "STRONG_MOVES") (.int 0) := ⟨13, rfl⟩
theorem g_14 : glR (Str.ofString "WEAK_MOVES") (.int 1) := ⟨14, rfl⟩

structure CA where
  prog : Program
  w : World
  K : Frag
  h₀ : Heap
  mg : Str → Option Value
  σ : Nat → Int
  ca : Nat → Addr
def theC (X : CA) : Cx := ⟨X.prog, X.w, X.K, X.h₀, X.mg, X.σ, X.ca, nmR, glR⟩

def mainS : List Stmt := Challenge.pw_sm0018_01.main.body
def fnAt (n : Nat) : Option Stmt := mainS[n]?
def inAt (n : Nat) : Option Stmt := match mainS[n]? with
  | some (.ClassDef _ _ _ b _ _ _ _ _ _ _) => (match b with | x :: _ => some x | [] => Option.none)
  | _ => Option.none
def bodyOf : Option Stmt → List Stmt
  | some (.FunctionDef _ _ b _ _ _ _ _ _ _) => b
  | _ => []
def scOf : Option Stmt → Scope
  | some (.FunctionDef _ _ _ _ _ _ s _ _ _) => s
  | _ => ⟨.module, [], false, false, []⟩
def parOf : Option Stmt → List Str
  | some (.FunctionDef _ a _ _ _ _ _ _ _ _) => a.args.map (·.arg)
  | _ => []

theorem FnSnd.up {c : Cx} {r q : Nat} {f : Fn} {fa : Addr} (h : FnSnd c r f fa) (hq : r ≤ q) : FnSnd c q f fa := fun vs H v H' hx A φ s ys T hA => h vs H v H' hx A φ s ys T (hA.mono hq)

/-- a function of the text: its name's value, fit to be called -/
structure Callee (X : CA) (r : Nat) (f : Fn) (g : Str) : Prop where
  is : ∃ fa, FnSnd (theC X) r f fa ∧ keepIn X.K (.ref fa) = true ∧ X.mg g = some (.ref fa)
theorem Callee.up {X : CA} {r q : Nat} {f : Fn} {g : Str} (h : Callee X r f g) (hq : r ≤ q) : Callee X q f g := let ⟨fa, a, b, d⟩ := h.is; ⟨fa, a.up hq, b, d⟩
structure Maker (X : CA) (r : Nat) (k : Nat) (f : Fn) (g : Str) : Prop where
  is : k < 3 ∧ ∃ fi, FnSnd (theC X) r f fi ∧ keepIn X.K (.ref (X.ca k)) = true ∧ X.mg g = some (.ref (X.ca k)) ∧ findIn X.K (.ref (X.ca k)) "__init__" = some (some (.ref fi)) ∧ typeIn X.K (.ref fi) = some (.type "function")
theorem Maker.up {X : CA} {r q k : Nat} {f : Fn} {g : Str} (h : Maker X r k f g) (hq : r + 2 ≤ q) : ∃ p, q = p + 2 ∧ Maker X p k f g := by
  obtain ⟨l, fi, a, b⟩ := h.is
  exact ⟨q - 2, by omega, l, fi, a.up (by omega), b⟩

section
variable {X : CA} {r : Nat} {sc : Scope}
theorem snd_callee (O : CxOk (theC X)) {f : Fn} {g : Str} {ts : Lx} {e : Expr} {es : List Expr} {p pos : Pos} (h : Callee X r f g) (hd : (g == Str.ofString "__debug__") = false) (hs : noStar (e :: es) = true) (hsc : sc.names.lookup g = some .globalImplicit) (hl : SndL (theC X) r sc ts (e :: es)) :
    SndE (theC X) r sc (e_call f ts) (.Call (.Name g p) (e :: es) [] pos) :=
  let ⟨fa, a, b, d⟩ := h.is
  snd_call O a b d hd hs hsc hl
theorem snd_maker (O : CxOk (theC X)) {k : Nat} {f : Fn} {g : Str} {ts : Lx} {e : Expr} {es : List Expr} {p pos : Pos} (h : ∃ q, r = q + 2 ∧ Maker X q k f g) (hd : (g == Str.ofString "__debug__") = false) (hs : noStar (e :: es) = true) (hsc : sc.names.lookup g = some .globalImplicit) (hl : SndL (theC X) r sc ts (e :: es)) :
    SndE (theC X) r sc (e_mk k f ts) (.Call (.Name g p) (e :: es) [] pos) := by
  obtain ⟨q, e, h⟩ := h
  subst e
  obtain ⟨k3, fi, a, b, d, i, t⟩ := h.is
  exact snd_mk O k3 a b d hd i t hs hsc hl
end
theorem noDot : ∀ e ∈ nmT, (e.2 == Str.ofString ".0") = false := by
  have : nmT.all (fun e => !(e.2 == Str.ofString ".0")) = true := by decide +kernel
  intro e he
  have := List.all_eq_true.mp this e he
  simpa using this
theorem hdot : ∀ q, nmR q (Str.ofString ".0") → False := fun q ⟨k, h⟩ => by
  have := noDot _ (List.mem_of_getElem? h)
  simp at this
end Mine

namespace Mine
open PySem PySem.SeqAt PySem.W PySem.Calls PyProof.Rows

theorem b_f0 {X : CA} (O : CxOk (theC X))  : SndSS (theC X) 0 (scOf (fnAt 1)) (ss_cons (s_ret (e_cmp cNe (e_bin iAnd (e_loc (.o (.o (.i (.o .e))))) (e_bin iSub (e_loc (.o (.o (.i (.o .e))))) (e_lit (.int 1)))) (e_lit (.int 0)))) ss_nil) (bodyOf (fnAt 1)) :=
  (snd_ss_cons (snd_ret (snd_cmp cmp_ne (snd_bin op_and (snd_loc O n_19 (by decide +kernel)) (snd_bin op_sub (snd_loc O n_19 (by decide +kernel)) snd_lit_int)) snd_lit_int (by decide +kernel))) snd_ss_nil)
theorem b_f1 {X : CA} (O : CxOk (theC X))  : SndSS (theC X) 0 (scOf (fnAt 2)) (ss_cons (s_asg (.o (.o (.o (.i .e)))) (e_lst l_nil)) (ss_cons (s_asg (.o .e) (e_lit (.int 0))) (ss_cons (s_whl (t_val (e_loc (.o (.o (.i (.o .e)))))) (ss_cons (s_whl (t_not (t_val (e_bin iAnd (e_loc (.o (.o (.i (.o .e))))) (e_lit (.int 15))))) (ss_cons (s_aug (.o (.o (.i (.o .e)))) iShr (e_lit (.int 4))) (ss_cons (s_aug (.o .e) iAdd (e_lit (.int 4))) ss_nil))) (ss_cons (s_ite (t_val (e_bin iAnd (e_loc (.o (.o (.i (.o .e))))) (e_lit (.int 1)))) (ss_cons (s_exp (e_app (e_loc (.o (.o (.o (.i .e))))) (e_loc (.o .e)))) ss_nil) ss_nil) (ss_cons (s_aug (.o (.o (.i (.o .e)))) iShr (e_lit (.int 1))) (ss_cons (s_aug (.o .e) iAdd (e_lit (.int 1))) ss_nil))))) (ss_cons (s_ret (e_loc (.o (.o (.o (.i .e)))))) ss_nil)))) (bodyOf (fnAt 2)) :=
  (snd_ss_cons (snd_asg O n_23 (by decide +kernel) (by rfl) (snd_lst snd_l_nil)) (snd_ss_cons (snd_asg O n_1 (by decide +kernel) (by rfl) snd_lit_int) (snd_ss_cons (snd_whl O (snd_t_val (by intros; rfl) (snd_loc O n_19 (by decide +kernel))) (snd_ss_cons (snd_whl O (snd_t_not (snd_t_val (by intros; rfl) (snd_bin op_and (snd_loc O n_19 (by decide +kernel)) snd_lit_int))) (snd_ss_cons (snd_aug O n_19 (by decide +kernel) op_shr snd_lit_int) (snd_ss_cons (snd_aug O n_1 (by decide +kernel) op_add snd_lit_int) snd_ss_nil))) (snd_ss_cons (snd_ite (snd_t_val (by intros; rfl) (snd_bin op_and (snd_loc O n_19 (by decide +kernel)) snd_lit_int)) (snd_ss_cons (snd_exp (by rfl) (snd_app O (by rfl) (by rfl) (by decide +kernel) (snd_loc O n_23 (by decide +kernel)) (snd_loc O n_1 (by decide +kernel)))) snd_ss_nil) snd_ss_nil) (snd_ss_cons (snd_aug O n_19 (by decide +kernel) op_shr snd_lit_int) (snd_ss_cons (snd_aug O n_1 (by decide +kernel) op_add snd_lit_int) snd_ss_nil))))) (snd_ss_cons (snd_ret (snd_loc O n_23 (by decide +kernel))) snd_ss_nil))))
theorem b_f2 {X : CA} (O : CxOk (theC X))  : SndSS (theC X) 0 (scOf (fnAt 12)) (ss_cons (s_ret (e_bin iAdd (e_bin iMul (e_loc (.i (.i (.i .e)))) (e_lit (.int 8))) (e_loc (.o (.o (.o .e)))))) ss_nil) (bodyOf (fnAt 12)) :=
  (snd_ss_cons (snd_ret (snd_bin op_add (snd_bin op_mul (snd_loc O n_14 (by decide +kernel)) snd_lit_int) (snd_loc O n_7 (by decide +kernel)))) snd_ss_nil)
theorem b_f3 {X : CA} (O : CxOk (theC X))  : SndSS (theC X) 0 (scOf (fnAt 13)) (ss_cons (s_ret (e_bin iShr (e_loc (.i (.o .e))) (e_lit (.int 3)))) ss_nil) (bodyOf (fnAt 13)) :=
  (snd_ss_cons (snd_ret (snd_bin op_shr (snd_loc O n_4 (by decide +kernel)) snd_lit_int)) snd_ss_nil)
theorem b_f4 {X : CA} (O : CxOk (theC X))  : SndSS (theC X) 0 (scOf (fnAt 14)) (ss_cons (s_ret (e_bin iAnd (e_loc (.i (.o .e))) (e_lit (.int 7)))) ss_nil) (bodyOf (fnAt 14)) :=
  (snd_ss_cons (snd_ret (snd_bin op_and (snd_loc O n_4 (by decide +kernel)) snd_lit_int)) snd_ss_nil)
theorem b_f5 {X : CA} (O : CxOk (theC X))  : SndSS (theC X) 0 (scOf (fnAt 16)) (ss_cons (s_ret (e_bin iAnd (e_bin iAdd (e_bin iMod (e_loc (.o .e)) (e_attr (e_loc .e) (.o (.i .e)))) (e_bin iDiv (e_loc (.o .e)) (e_attr (e_loc .e) (.o (.i .e))))) (e_lit (.int 1)))) ss_nil) (bodyOf (fnAt 16)) :=
  (snd_ss_cons (snd_ret (snd_bin op_and (snd_bin op_add (snd_bin op_mod (snd_loc O n_1 (by decide +kernel)) (snd_attr O n_5 (by rfl) (snd_loc O n_0 (by decide +kernel)))) (snd_bin op_div (snd_loc O n_1 (by decide +kernel)) (snd_attr O n_5 (by rfl) (snd_loc O n_0 (by decide +kernel))))) snd_lit_int)) snd_ss_nil)
theorem b_f6 {X : CA} (O : CxOk (theC X)) (h_square_colour : Callee X 1 f5 (Str.ofString "square_colour")) (h_squares_of : Callee X 1 f1 (Str.ofString "squares_of")) : SndSS (theC X) 1 (scOf (fnAt 17)) (ss_cons (s_asg (.i (.i (.i (.i (.o (.o .e)))))) (e_lit (.int 0))) (ss_cons (s_for (.one (.o .e)) (e_call f1 (l_cons (e_sub subL (e_attr (e_loc (.i (.i (.o (.o .e))))) (.i (.i (.i (.o .e))))) (e_lit (.int 3))) l_nil)) (ss_cons (s_aug (.i (.i (.i (.i (.o (.o .e)))))) iOr (e_bin iShl (e_lit (.int 1)) (e_call f5 (l_cons (e_attr (e_loc (.i (.i (.o (.o .e))))) .e) (l_cons (e_loc (.o .e)) l_nil))))) ss_nil)) (ss_cons (s_ret (e_cmp cNe (e_loc (.i (.i (.i (.i (.o (.o .e))))))) (e_lit (.int 3)))) ss_nil))) (bodyOf (fnAt 17)) :=
  (snd_ss_cons (snd_asg O n_78 (by decide +kernel) (by rfl) snd_lit_int) (snd_ss_cons (snd_for O (.one n_1 (by decide +kernel)) (snd_callee O (h_squares_of.up (by decide +kernel)) (by decide +kernel) (by rfl) (by decide +kernel) (snd_l_cons (by rfl) (snd_sub sub_L (snd_attr O n_22 (by rfl) (snd_loc O n_18 (by decide +kernel))) (snd_glo O g_3 (by decide +kernel)) (by rfl)) snd_l_nil)) (snd_ss_cons (snd_aug O n_78 (by decide +kernel) op_or (snd_bin op_shl snd_lit_int (snd_callee O (h_square_colour.up (by decide +kernel)) (by decide +kernel) (by rfl) (by decide +kernel) (snd_l_cons (by rfl) (snd_attr O n_0 (by rfl) (snd_loc O n_18 (by decide +kernel))) (snd_l_cons (by rfl) (snd_loc O n_1 (by decide +kernel)) snd_l_nil))))) snd_ss_nil) (by rfl)) (snd_ss_cons (snd_ret (snd_cmp cmp_ne (snd_loc O n_78 (by decide +kernel)) snd_lit_int (by decide +kernel))) snd_ss_nil)))
theorem b_f7 {X : CA} (O : CxOk (theC X)) (h_bishops_on_one_colour : Callee X 2 f6 (Str.ofString "bishops_on_one_colour")) (h_more_than_one : Callee X 1 f0 (Str.ofString "more_than_one")) : SndSS (theC X) 2 (scOf (fnAt 18)) (ss_cons (s_asg (.i (.i (.i (.o .e)))) (e_attr (e_loc (.i (.i (.o (.o .e))))) (.i (.i (.i (.o .e)))))) (ss_cons (s_ite (t_cmp cNe (e_bin iOr (e_bin iOr (e_sub subL (e_loc (.i (.i (.i (.o .e))))) (e_lit (.int 1))) (e_sub subL (e_loc (.i (.i (.i (.o .e))))) (e_lit (.int 4)))) (e_sub subL (e_loc (.i (.i (.i (.o .e))))) (e_lit (.int 5)))) (e_lit (.int 0))) (ss_cons (s_ret (e_lit (.bool false))) ss_nil) ss_nil) (ss_cons (s_ite (t_cmp cEq (e_sub subL (e_loc (.i (.i (.i (.o .e))))) (e_lit (.int 2))) (e_lit (.int 0))) (ss_cons (s_ret (e_call f6 (l_cons (e_loc (.i (.i (.o (.o .e))))) l_nil))) ss_nil) ss_nil) (ss_cons (s_ret (e_bool true (e_cmp cEq (e_sub subL (e_loc (.i (.i (.i (.o .e))))) (e_lit (.int 3))) (e_lit (.int 0))) (e_notv (e_call f0 (l_cons (e_sub subL (e_loc (.i (.i (.i (.o .e))))) (e_lit (.int 2))) l_nil))))) ss_nil)))) (bodyOf (fnAt 18)) :=
  (snd_ss_cons (snd_asg O n_22 (by decide +kernel) (by rfl) (snd_attr O n_22 (by rfl) (snd_loc O n_18 (by decide +kernel)))) (snd_ss_cons (snd_ite (snd_t_cmp cmp_ne (snd_bin op_or (snd_bin op_or (snd_sub sub_L (snd_loc O n_22 (by decide +kernel)) (snd_glo O g_1 (by decide +kernel)) (by rfl)) (snd_sub sub_L (snd_loc O n_22 (by decide +kernel)) (snd_glo O g_4 (by decide +kernel)) (by rfl))) (snd_sub sub_L (snd_loc O n_22 (by decide +kernel)) (snd_glo O g_5 (by decide +kernel)) (by rfl))) snd_lit_int (by decide +kernel)) (snd_ss_cons (snd_ret snd_lit_bool) snd_ss_nil) snd_ss_nil) (snd_ss_cons (snd_ite (snd_t_cmp cmp_eq (snd_sub sub_L (snd_loc O n_22 (by decide +kernel)) (snd_glo O g_2 (by decide +kernel)) (by rfl)) snd_lit_int (by decide +kernel)) (snd_ss_cons (snd_ret (snd_callee O (h_bishops_on_one_colour.up (by decide +kernel)) (by decide +kernel) (by rfl) (by decide +kernel) (snd_l_cons (by rfl) (snd_loc O n_18 (by decide +kernel)) snd_l_nil))) snd_ss_nil) snd_ss_nil) (snd_ss_cons (snd_ret (snd_bool (w := true) (snd_b_cons (snd_cmp cmp_eq (snd_sub sub_L (snd_loc O n_22 (by decide +kernel)) (snd_glo O g_3 (by decide +kernel)) (by rfl)) snd_lit_int (by decide +kernel)) (snd_b_one (snd_notv (snd_callee O (h_more_than_one.up (by decide +kernel)) (by decide +kernel) (by rfl) (by decide +kernel) (snd_l_cons (by rfl) (snd_sub sub_L (snd_loc O n_22 (by decide +kernel)) (snd_glo O g_2 (by decide +kernel)) (by rfl)) snd_l_nil))))))) snd_ss_nil))))
theorem b_f8 {X : CA} (O : CxOk (theC X))  : SndSS (theC X) 0 (scOf (fnAt 26)) (ss_cons (s_ret (e_bool false (e_cmp cGt (e_sub subC (e_lit (.ctup [1, 0, (-1), 0, 1, (-1), (-1), 1])) (e_loc (.i (.i (.o .e))))) (e_lit (.int 0))) (e_cmp cEq (e_loc (.i (.i (.o .e)))) (e_lit (.int 1))))) ss_nil) (bodyOf (fnAt 26)) :=
  (snd_ss_cons (snd_ret (snd_bool (w := false) (snd_b_cons (snd_cmp cmp_gt (snd_sub sub_C (snd_glo O g_9 (by decide +kernel)) (snd_loc O n_10 (by decide +kernel)) (by rfl)) snd_lit_int (by decide +kernel)) (snd_b_one (snd_cmp cmp_eq (snd_loc O n_10 (by decide +kernel)) snd_lit_int (by decide +kernel)))))) snd_ss_nil)
theorem b_f9 {X : CA} (O : CxOk (theC X))  : SndSS (theC X) 0 (scOf (fnAt 27)) (ss_cons (s_asg (.i (.i (.i (.o (.o .e))))) (e_bin iSub (e_bin iShl (e_lit (.int 1)) (e_attr (e_loc .e) (.o (.i .e)))) (e_lit (.int 1)))) (ss_cons (s_asg (.i (.i (.o (.o (.o (.o .e)))))) (e_lit (.int 0))) (ss_cons (s_for (.one (.o (.i (.i (.i (.o (.o .e))))))) (e_rng (l_cons (e_attr (e_loc .e) (.o (.i (.i (.o .e))))) l_nil)) (ss_cons (s_exp (e_app (e_attr (e_loc .e) (.i (.i (.i (.o (.i .e)))))) (e_bin iShl (e_loc (.i (.i (.i (.o (.o .e)))))) (e_bin iMul (e_loc (.o (.i (.i (.i (.o (.o .e))))))) (e_attr (e_loc .e) (.o (.i .e))))))) (ss_cons (s_aug (.i (.i (.o (.o (.o (.o .e)))))) iOr (e_bin iShl (e_lit (.int 1)) (e_bin iMul (e_loc (.o (.i (.i (.i (.o (.o .e))))))) (e_attr (e_loc .e) (.o (.i .e)))))) ss_nil))) (ss_cons (s_for (.one (.i (.o (.i (.o (.i (.o .e))))))) (e_rng (l_cons (e_attr (e_loc .e) (.o (.i .e))) l_nil)) (ss_cons (s_exp (e_app (e_attr (e_loc .e) (.i (.i (.o (.i .e))))) (e_bin iShl (e_loc (.i (.i (.o (.o (.o (.o .e))))))) (e_loc (.i (.o (.i (.o (.i (.o .e)))))))))) ss_nil)) ss_nil)))) (bodyOf (fnAt 27)) :=
  (snd_ss_cons (snd_asg O n_38 (by decide +kernel) (by rfl) (snd_bin op_sub (snd_bin op_shl snd_lit_int (snd_attr O n_5 (by rfl) (snd_loc O n_0 (by decide +kernel)))) snd_lit_int)) (snd_ss_cons (snd_asg O n_66 (by decide +kernel) (by rfl) snd_lit_int) (snd_ss_cons (snd_for O (.one n_77 (by decide +kernel)) (snd_rng O (by rfl) (by decide +kernel) (snd_l_cons (by rfl) (snd_attr O n_21 (by rfl) (snd_loc O n_0 (by decide +kernel))) snd_l_nil)) (snd_ss_cons (snd_exp (by rfl) (snd_app O (by rfl) (by rfl) (by decide +kernel) (snd_attr O n_54 (by rfl) (snd_loc O n_0 (by decide +kernel))) (snd_bin op_shl (snd_loc O n_38 (by decide +kernel)) (snd_bin op_mul (snd_loc O n_77 (by decide +kernel)) (snd_attr O n_5 (by rfl) (snd_loc O n_0 (by decide +kernel))))))) (snd_ss_cons (snd_aug O n_66 (by decide +kernel) op_or (snd_bin op_shl snd_lit_int (snd_bin op_mul (snd_loc O n_77 (by decide +kernel)) (snd_attr O n_5 (by rfl) (snd_loc O n_0 (by decide +kernel)))))) snd_ss_nil)) (by rfl)) (snd_ss_cons (snd_for O (.one n_84 (by decide +kernel)) (snd_rng O (by rfl) (by decide +kernel) (snd_l_cons (by rfl) (snd_attr O n_5 (by rfl) (snd_loc O n_0 (by decide +kernel))) snd_l_nil)) (snd_ss_cons (snd_exp (by rfl) (snd_app O (by rfl) (by rfl) (by decide +kernel) (snd_attr O n_26 (by rfl) (snd_loc O n_0 (by decide +kernel))) (snd_bin op_shl (snd_loc O n_66 (by decide +kernel)) (snd_loc O n_84 (by decide +kernel))))) snd_ss_nil) (by rfl)) snd_ss_nil))))
theorem b_f10 {X : CA} (O : CxOk (theC X))  : SndSS (theC X) 0 (scOf (fnAt 28)) (ss_cons (s_asg (.o (.i (.o (.o (.o .e))))) (e_lit (.int 0))) (ss_cons (s_ite (t_cmp cGt (e_sub subC (e_lit (.ctup [0, 1, 0, (-1), 1, 1, (-1), (-1)])) (e_loc (.i (.i (.o .e))))) (e_lit (.int 0))) (ss_cons (s_aug (.o (.i (.o (.o (.o .e))))) iOr (e_sub subL (e_attr (e_loc .e) (.i (.i (.o (.i .e))))) (e_bin iSub (e_attr (e_loc .e) (.o (.i .e))) (e_lit (.int 1))))) ss_nil) ss_nil) (ss_cons (s_ite (t_cmp cLt (e_sub subC (e_lit (.ctup [0, 1, 0, (-1), 1, 1, (-1), (-1)])) (e_loc (.i (.i (.o .e))))) (e_lit (.int 0))) (ss_cons (s_aug (.o (.i (.o (.o (.o .e))))) iOr (e_sub subL (e_attr (e_loc .e) (.i (.i (.o (.i .e))))) (e_lit (.int 0)))) ss_nil) ss_nil) (ss_cons (s_ite (t_cmp cGt (e_sub subC (e_lit (.ctup [1, 0, (-1), 0, 1, (-1), (-1), 1])) (e_loc (.i (.i (.o .e))))) (e_lit (.int 0))) (ss_cons (s_aug (.o (.i (.o (.o (.o .e))))) iOr (e_sub subL (e_attr (e_loc .e) (.i (.i (.i (.o (.i .e)))))) (e_bin iSub (e_attr (e_loc .e) (.o (.i (.i (.o .e))))) (e_lit (.int 1))))) ss_nil) ss_nil) (ss_cons (s_ite (t_cmp cLt (e_sub subC (e_lit (.ctup [1, 0, (-1), 0, 1, (-1), (-1), 1])) (e_loc (.i (.i (.o .e))))) (e_lit (.int 0))) (ss_cons (s_aug (.o (.i (.o (.o (.o .e))))) iOr (e_sub subL (e_attr (e_loc .e) (.i (.i (.i (.o (.i .e)))))) (e_lit (.int 0)))) ss_nil) ss_nil) (ss_cons (s_ret (e_bin iAnd (e_attr (e_loc .e) (.i (.i (.i (.i .e))))) (e_inv (e_loc (.o (.i (.o (.o (.o .e))))))))) ss_nil)))))) (bodyOf (fnAt 28)) :=
  (snd_ss_cons (snd_asg O n_33 (by decide +kernel) (by rfl) snd_lit_int) (snd_ss_cons (snd_ite (snd_t_cmp cmp_gt (snd_sub sub_C (snd_glo O g_8 (by decide +kernel)) (snd_loc O n_10 (by decide +kernel)) (by rfl)) snd_lit_int (by decide +kernel)) (snd_ss_cons (snd_aug O n_33 (by decide +kernel) op_or (snd_sub sub_L (snd_attr O n_26 (by rfl) (snd_loc O n_0 (by decide +kernel))) (snd_bin op_sub (snd_attr O n_5 (by rfl) (snd_loc O n_0 (by decide +kernel))) snd_lit_int) (by rfl))) snd_ss_nil) snd_ss_nil) (snd_ss_cons (snd_ite (snd_t_cmp cmp_lt (snd_sub sub_C (snd_glo O g_8 (by decide +kernel)) (snd_loc O n_10 (by decide +kernel)) (by rfl)) snd_lit_int (by decide +kernel)) (snd_ss_cons (snd_aug O n_33 (by decide +kernel) op_or (snd_sub sub_L (snd_attr O n_26 (by rfl) (snd_loc O n_0 (by decide +kernel))) snd_lit_int (by rfl))) snd_ss_nil) snd_ss_nil) (snd_ss_cons (snd_ite (snd_t_cmp cmp_gt (snd_sub sub_C (snd_glo O g_9 (by decide +kernel)) (snd_loc O n_10 (by decide +kernel)) (by rfl)) snd_lit_int (by decide +kernel)) (snd_ss_cons (snd_aug O n_33 (by decide +kernel) op_or (snd_sub sub_L (snd_attr O n_54 (by rfl) (snd_loc O n_0 (by decide +kernel))) (snd_bin op_sub (snd_attr O n_21 (by rfl) (snd_loc O n_0 (by decide +kernel))) snd_lit_int) (by rfl))) snd_ss_nil) snd_ss_nil) (snd_ss_cons (snd_ite (snd_t_cmp cmp_lt (snd_sub sub_C (snd_glo O g_9 (by decide +kernel)) (snd_loc O n_10 (by decide +kernel)) (by rfl)) snd_lit_int (by decide +kernel)) (snd_ss_cons (snd_aug O n_33 (by decide +kernel) op_or (snd_sub sub_L (snd_attr O n_54 (by rfl) (snd_loc O n_0 (by decide +kernel))) snd_lit_int (by rfl))) snd_ss_nil) snd_ss_nil) (snd_ss_cons (snd_ret (snd_bin op_and (snd_attr O n_30 (by rfl) (snd_loc O n_0 (by decide +kernel))) (snd_inv (snd_loc O n_33 (by decide +kernel))))) snd_ss_nil))))))
theorem b_f11 {X : CA} (O : CxOk (theC X)) (h_inner_squares : Callee X 1 f10 (Str.ofString "inner_squares")) (h_is_growing : Callee X 1 f8 (Str.ofString "is_growing")) : SndSS (theC X) 1 (scOf (fnAt 29)) (ss_cons (s_asgA okA (e_loc .e) (.o (.o (.o (.o .e)))) (e_bin2 mulL (e_lst (l_cons (e_lit (.int 0)) l_nil)) (e_attr (e_loc .e) (.i .e)))) (ss_cons (s_for (.one (.i (.i (.o .e)))) (e_rng (l_cons (e_lit (.int 8)) l_nil)) (ss_cons (s_asg (.o (.i (.i (.o (.i (.o .e)))))) (e_call f10 (l_cons (e_loc .e) (l_cons (e_loc (.i (.i (.o .e)))) l_nil)))) (ss_cons (s_asg (.o (.o (.i (.o (.i (.o .e)))))) (e_bin iAdd (e_bin iMul (e_sub subC (e_lit (.ctup [1, 0, (-1), 0, 1, (-1), (-1), 1])) (e_loc (.i (.i (.o .e))))) (e_attr (e_loc .e) (.o (.i .e)))) (e_sub subC (e_lit (.ctup [0, 1, 0, (-1), 1, 1, (-1), (-1)])) (e_loc (.i (.i (.o .e))))))) (ss_cons (s_asg (.o (.i (.o (.i .e)))) (e_bin2 mulL (e_lst (l_cons (e_lit (.int 0)) l_nil)) (e_attr (e_loc .e) (.i .e)))) (ss_cons (s_asg (.o (.o (.i (.i (.o (.o .e)))))) (e_rng (l_cons (e_attr (e_loc .e) (.i .e)) l_nil))) (ss_cons (s_ite (t_val (e_call f8 (l_cons (e_loc (.i (.i (.o .e)))) l_nil))) (ss_cons (s_asg (.o (.o (.i (.i (.o (.o .e)))))) (e_rng (l_cons (e_bin iSub (e_attr (e_loc .e) (.i .e)) (e_lit (.int 1))) (l_cons (e_neg (e_lit (.int 1))) (l_cons (e_neg (e_lit (.int 1))) l_nil))))) ss_nil) ss_nil) (ss_cons (s_for (.one (.o .e)) (e_loc (.o (.o (.i (.i (.o (.o .e))))))) (ss_cons (s_ite (t_val (e_bin iAnd (e_bin iShr (e_loc (.o (.i (.i (.o (.i (.o .e))))))) (e_loc (.o .e))) (e_lit (.int 1)))) (ss_cons (s_asg (.o (.i (.o .e))) (e_bin iAdd (e_loc (.o .e)) (e_loc (.o (.o (.i (.o (.i (.o .e))))))))) (ss_cons (s_asgS setL (e_loc (.o (.i (.o (.i .e))))) (e_loc (.o .e)) (e_bin iOr (e_sub subL (e_loc (.o (.i (.o (.i .e))))) (e_loc (.o (.i (.o .e))))) (e_bin iShl (e_lit (.int 1)) (e_loc (.o (.i (.o .e))))))) (ss_cons (s_augS (e_attr (e_loc .e) (.o (.o (.o (.o .e))))) (e_loc (.o .e)) iOr (e_bin iShl (e_lit (.int 1)) (e_loc (.o (.i (.o .e)))))) ss_nil))) ss_nil) ss_nil)) (ss_cons (s_exp (e_app (e_attr (e_loc .e) (.o (.o (.o (.o (.o .e)))))) (e_loc (.o (.i (.o (.i .e))))))) ss_nil)))))))) ss_nil)) (bodyOf (fnAt 29)) :=
  (snd_ss_cons (snd_asgA O n_15 (by rfl) (snd_loc O n_0 (by decide +kernel)) (snd_bin2 op_mulL (snd_lst (snd_l_cons (by rfl) snd_lit_int snd_l_nil)) (snd_attr O n_2 (by rfl) (snd_loc O n_0 (by decide +kernel))))) (snd_ss_cons (snd_for O (.one n_10 (by decide +kernel)) (snd_rng O (by rfl) (by decide +kernel) (snd_l_cons (by rfl) snd_lit_int snd_l_nil)) (snd_ss_cons (snd_asg O n_85 (by decide +kernel) (by rfl) (snd_callee O (h_inner_squares.up (by decide +kernel)) (by decide +kernel) (by rfl) (by decide +kernel) (snd_l_cons (by rfl) (snd_loc O n_0 (by decide +kernel)) (snd_l_cons (by rfl) (snd_loc O n_10 (by decide +kernel)) snd_l_nil)))) (snd_ss_cons (snd_asg O n_83 (by decide +kernel) (by rfl) (snd_bin op_add (snd_bin op_mul (snd_sub sub_C (snd_glo O g_9 (by decide +kernel)) (snd_loc O n_10 (by decide +kernel)) (by rfl)) (snd_attr O n_5 (by rfl) (snd_loc O n_0 (by decide +kernel)))) (snd_sub sub_C (snd_glo O g_8 (by decide +kernel)) (snd_loc O n_10 (by decide +kernel)) (by rfl)))) (snd_ss_cons (snd_asg O n_25 (by decide +kernel) (by rfl) (snd_bin2 op_mulL (snd_lst (snd_l_cons (by rfl) snd_lit_int snd_l_nil)) (snd_attr O n_2 (by rfl) (snd_loc O n_0 (by decide +kernel))))) (snd_ss_cons (snd_asg O n_75 (by decide +kernel) (by rfl) (snd_rng O (by rfl) (by decide +kernel) (snd_l_cons (by rfl) (snd_attr O n_2 (by rfl) (snd_loc O n_0 (by decide +kernel))) snd_l_nil))) (snd_ss_cons (snd_ite (snd_t_val (by intros; rfl) (snd_callee O (h_is_growing.up (by decide +kernel)) (by decide +kernel) (by rfl) (by decide +kernel) (snd_l_cons (by rfl) (snd_loc O n_10 (by decide +kernel)) snd_l_nil))) (snd_ss_cons (snd_asg O n_75 (by decide +kernel) (by rfl) (snd_rng O (by rfl) (by decide +kernel) (snd_l_cons (by rfl) (snd_bin op_sub (snd_attr O n_2 (by rfl) (snd_loc O n_0 (by decide +kernel))) snd_lit_int) (snd_l_cons (by rfl) (snd_neg snd_lit_int) (snd_l_cons (by rfl) (snd_neg snd_lit_int) snd_l_nil))))) snd_ss_nil) snd_ss_nil) (snd_ss_cons (snd_for O (.one n_1 (by decide +kernel)) (snd_loc O n_75 (by decide +kernel)) (snd_ss_cons (snd_ite (snd_t_val (by intros; rfl) (snd_bin op_and (snd_bin op_shr (snd_loc O n_85 (by decide +kernel)) (snd_loc O n_1 (by decide +kernel))) snd_lit_int)) (snd_ss_cons (snd_asg O n_9 (by decide +kernel) (by rfl) (snd_bin op_add (snd_loc O n_1 (by decide +kernel)) (snd_loc O n_83 (by decide +kernel)))) (snd_ss_cons (snd_asgS set_L (by rfl) (snd_loc O n_25 (by decide +kernel)) (snd_loc O n_1 (by decide +kernel)) (snd_bin op_or (snd_sub sub_L (snd_loc O n_25 (by decide +kernel)) (snd_loc O n_9 (by decide +kernel)) (by rfl)) (snd_bin op_shl snd_lit_int (snd_loc O n_9 (by decide +kernel))))) (snd_ss_cons (snd_augS op_or (by rfl) (snd_attr O n_15 (by rfl) (snd_loc O n_0 (by decide +kernel))) (snd_loc O n_1 (by decide +kernel)) (snd_bin op_shl snd_lit_int (snd_loc O n_9 (by decide +kernel)))) snd_ss_nil))) snd_ss_nil) snd_ss_nil) (by rfl)) (snd_ss_cons (snd_exp (by rfl) (snd_app O (by rfl) (by rfl) (by decide +kernel) (snd_attr O n_31 (by rfl) (snd_loc O n_0 (by decide +kernel))) (snd_loc O n_25 (by decide +kernel)))) snd_ss_nil))))))) (by rfl)) snd_ss_nil))
theorem b_f12 {X : CA} (O : CxOk (theC X))  : SndSS (theC X) 0 (scOf (fnAt 30)) (ss_cons (s_for (.one (.o .e)) (e_rng (l_cons (e_attr (e_loc .e) (.i .e)) l_nil)) (ss_cons (s_exp (e_app (e_sub subL (e_attr (e_loc .e) (.i (.o (.i (.o (.i .e)))))) (e_lit (.int 0))) (e_bin iAnd (e_sub subL (e_attr (e_loc .e) (.o (.o (.o (.o .e))))) (e_loc (.o .e))) (e_bin iOr (e_sub subL (e_sub subL (e_attr (e_loc .e) (.o (.o (.o (.o (.o .e)))))) (e_lit (.int 4))) (e_loc (.o .e))) (e_sub subL (e_sub subL (e_attr (e_loc .e) (.o (.o (.o (.o (.o .e)))))) (e_lit (.int 7))) (e_loc (.o .e))))))) (ss_cons (s_exp (e_app (e_sub subL (e_attr (e_loc .e) (.i (.o (.i (.o (.i .e)))))) (e_lit (.int 1))) (e_bin iAnd (e_sub subL (e_attr (e_loc .e) (.o (.o (.o (.o .e))))) (e_loc (.o .e))) (e_bin iOr (e_sub subL (e_sub subL (e_attr (e_loc .e) (.o (.o (.o (.o (.o .e)))))) (e_lit (.int 5))) (e_loc (.o .e))) (e_sub subL (e_sub subL (e_attr (e_loc .e) (.o (.o (.o (.o (.o .e)))))) (e_lit (.int 6))) (e_loc (.o .e))))))) ss_nil))) ss_nil) (bodyOf (fnAt 30)) :=
  (snd_ss_cons (snd_for O (.one n_1 (by decide +kernel)) (snd_rng O (by rfl) (by decide +kernel) (snd_l_cons (by rfl) (snd_attr O n_2 (by rfl) (snd_loc O n_0 (by decide +kernel))) snd_l_nil)) (snd_ss_cons (snd_exp (by rfl) (snd_app O (by rfl) (by rfl) (by decide +kernel) (snd_sub sub_L (snd_attr O n_52 (by rfl) (snd_loc O n_0 (by decide +kernel))) snd_lit_int (by rfl)) (snd_bin op_and (snd_sub sub_L (snd_attr O n_15 (by rfl) (snd_loc O n_0 (by decide +kernel))) (snd_loc O n_1 (by decide +kernel)) (by rfl)) (snd_bin op_or (snd_sub sub_L (snd_sub sub_L (snd_attr O n_31 (by rfl) (snd_loc O n_0 (by decide +kernel))) snd_lit_int (by rfl)) (snd_loc O n_1 (by decide +kernel)) (by rfl)) (snd_sub sub_L (snd_sub sub_L (snd_attr O n_31 (by rfl) (snd_loc O n_0 (by decide +kernel))) snd_lit_int (by rfl)) (snd_loc O n_1 (by decide +kernel)) (by rfl)))))) (snd_ss_cons (snd_exp (by rfl) (snd_app O (by rfl) (by rfl) (by decide +kernel) (snd_sub sub_L (snd_attr O n_52 (by rfl) (snd_loc O n_0 (by decide +kernel))) snd_lit_int (by rfl)) (snd_bin op_and (snd_sub sub_L (snd_attr O n_15 (by rfl) (snd_loc O n_0 (by decide +kernel))) (snd_loc O n_1 (by decide +kernel)) (by rfl)) (snd_bin op_or (snd_sub sub_L (snd_sub sub_L (snd_attr O n_31 (by rfl) (snd_loc O n_0 (by decide +kernel))) snd_lit_int (by rfl)) (snd_loc O n_1 (by decide +kernel)) (by rfl)) (snd_sub sub_L (snd_sub sub_L (snd_attr O n_31 (by rfl) (snd_loc O n_0 (by decide +kernel))) snd_lit_int (by rfl)) (snd_loc O n_1 (by decide +kernel)) (by rfl)))))) snd_ss_nil)) (by rfl)) snd_ss_nil)
theorem b_f13 {X : CA} (O : CxOk (theC X))  : SndSS (theC X) 0 (scOf (fnAt 31)) (ss_cons (s_asg (.o (.i .e)) (e_attr (e_loc .e) (.o (.i .e)))) (ss_cons (s_asg (.i (.o (.o (.i (.o (.o .e)))))) (e_bin iAnd (e_attr (e_loc .e) (.i (.i (.i (.i .e))))) (e_inv (e_sub subL (e_attr (e_loc .e) (.i (.i (.o (.i .e))))) (e_lit (.int 0)))))) (ss_cons (s_asg (.o (.i (.o (.i (.o (.o .e)))))) (e_bin iAnd (e_attr (e_loc .e) (.i (.i (.i (.i .e))))) (e_inv (e_sub subL (e_attr (e_loc .e) (.i (.i (.o (.i .e))))) (e_bin iSub (e_loc (.o (.i .e))) (e_lit (.int 1))))))) (ss_cons (s_asg (.o (.o (.o (.i (.i (.o .e)))))) (e_bin iAnd (e_loc (.i (.o (.o (.i (.o (.o .e))))))) (e_inv (e_sub subL (e_attr (e_loc .e) (.i (.i (.o (.i .e))))) (e_lit (.int 1)))))) (ss_cons (s_asg (.i (.o (.o (.i (.i (.o .e)))))) (e_bin iAnd (e_loc (.o (.i (.o (.i (.o (.o .e))))))) (e_inv (e_sub subL (e_attr (e_loc .e) (.i (.i (.o (.i .e))))) (e_bin iSub (e_loc (.o (.i .e))) (e_lit (.int 2))))))) (ss_cons (s_for (.one (.o .e)) (e_rng (l_cons (e_attr (e_loc .e) (.i .e)) l_nil)) (ss_cons (s_asg (.o (.o (.i (.o .e)))) (e_bin iShl (e_lit (.int 1)) (e_loc (.o .e)))) (ss_cons (s_asg (.o (.o (.o (.i (.o (.o .e)))))) (e_bin iOr (e_bin iAnd (e_bin iShl (e_loc (.o (.o (.i (.o .e))))) (e_lit (.int 1))) (e_loc (.i (.o (.o (.i (.o (.o .e)))))))) (e_bin iAnd (e_bin iShr (e_loc (.o (.o (.i (.o .e))))) (e_lit (.int 1))) (e_loc (.o (.i (.o (.i (.o (.o .e)))))))))) (ss_cons (s_asg (.o (.o (.i (.o (.o (.o .e)))))) (e_bin iOr (e_bin iAnd (e_bin iShl (e_loc (.o (.o (.i (.o .e))))) (e_lit (.int 2))) (e_loc (.o (.o (.o (.i (.i (.o .e)))))))) (e_bin iAnd (e_bin iShr (e_loc (.o (.o (.i (.o .e))))) (e_lit (.int 2))) (e_loc (.i (.o (.o (.i (.i (.o .e)))))))))) (ss_cons (s_asg (.o (.o (.i (.i .e)))) (e_bin iOr (e_bin iOr (e_bin iOr (e_bin iShl (e_loc (.o (.o (.o (.i (.o (.o .e))))))) (e_bin iMul (e_lit (.int 2)) (e_loc (.o (.i .e))))) (e_bin iShr (e_loc (.o (.o (.o (.i (.o (.o .e))))))) (e_bin iMul (e_lit (.int 2)) (e_loc (.o (.i .e)))))) (e_bin iShl (e_loc (.o (.o (.i (.o (.o (.o .e))))))) (e_loc (.o (.i .e))))) (e_bin iShr (e_loc (.o (.o (.i (.o (.o (.o .e))))))) (e_loc (.o (.i .e)))))) (ss_cons (s_exp (e_app (e_attr (e_loc .e) (.i (.i (.i (.o (.o (.o .e))))))) (e_bin iAnd (e_loc (.o (.o (.i (.i .e))))) (e_attr (e_loc .e) (.i (.i (.i (.i .e)))))))) ss_nil)))))) ss_nil)))))) (bodyOf (fnAt 31)) :=
  (snd_ss_cons (snd_asg O n_5 (by decide +kernel) (by rfl) (snd_attr O n_5 (by rfl) (snd_loc O n_0 (by decide +kernel)))) (snd_ss_cons (snd_asg O n_72 (by decide +kernel) (by rfl) (snd_bin op_and (snd_attr O n_30 (by rfl) (snd_loc O n_0 (by decide +kernel))) (snd_inv (snd_sub sub_L (snd_attr O n_26 (by rfl) (snd_loc O n_0 (by decide +kernel))) snd_lit_int (by rfl))))) (snd_ss_cons (snd_asg O n_73 (by decide +kernel) (by rfl) (snd_bin op_and (snd_attr O n_30 (by rfl) (snd_loc O n_0 (by decide +kernel))) (snd_inv (snd_sub sub_L (snd_attr O n_26 (by rfl) (snd_loc O n_0 (by decide +kernel))) (snd_bin op_sub (snd_loc O n_5 (by decide +kernel)) snd_lit_int) (by rfl))))) (snd_ss_cons (snd_asg O n_87 (by decide +kernel) (by rfl) (snd_bin op_and (snd_loc O n_72 (by decide +kernel)) (snd_inv (snd_sub sub_L (snd_attr O n_26 (by rfl) (snd_loc O n_0 (by decide +kernel))) snd_lit_int (by rfl))))) (snd_ss_cons (snd_asg O n_88 (by decide +kernel) (by rfl) (snd_bin op_and (snd_loc O n_73 (by decide +kernel)) (snd_inv (snd_sub sub_L (snd_attr O n_26 (by rfl) (snd_loc O n_0 (by decide +kernel))) (snd_bin op_sub (snd_loc O n_5 (by decide +kernel)) snd_lit_int) (by rfl))))) (snd_ss_cons (snd_for O (.one n_1 (by decide +kernel)) (snd_rng O (by rfl) (by decide +kernel) (snd_l_cons (by rfl) (snd_attr O n_2 (by rfl) (snd_loc O n_0 (by decide +kernel))) snd_l_nil)) (snd_ss_cons (snd_asg O n_19 (by decide +kernel) (by rfl) (snd_bin op_shl snd_lit_int (snd_loc O n_1 (by decide +kernel)))) (snd_ss_cons (snd_asg O n_71 (by decide +kernel) (by rfl) (snd_bin op_or (snd_bin op_and (snd_bin op_shl (snd_loc O n_19 (by decide +kernel)) snd_lit_int) (snd_loc O n_72 (by decide +kernel))) (snd_bin op_and (snd_bin op_shr (snd_loc O n_19 (by decide +kernel)) snd_lit_int) (snd_loc O n_73 (by decide +kernel))))) (snd_ss_cons (snd_asg O n_67 (by decide +kernel) (by rfl) (snd_bin op_or (snd_bin op_and (snd_bin op_shl (snd_loc O n_19 (by decide +kernel)) snd_lit_int) (snd_loc O n_87 (by decide +kernel))) (snd_bin op_and (snd_bin op_shr (snd_loc O n_19 (by decide +kernel)) snd_lit_int) (snd_loc O n_88 (by decide +kernel))))) (snd_ss_cons (snd_asg O n_27 (by decide +kernel) (by rfl) (snd_bin op_or (snd_bin op_or (snd_bin op_or (snd_bin op_shl (snd_loc O n_71 (by decide +kernel)) (snd_bin op_mul snd_lit_int (snd_loc O n_5 (by decide +kernel)))) (snd_bin op_shr (snd_loc O n_71 (by decide +kernel)) (snd_bin op_mul snd_lit_int (snd_loc O n_5 (by decide +kernel))))) (snd_bin op_shl (snd_loc O n_67 (by decide +kernel)) (snd_loc O n_5 (by decide +kernel)))) (snd_bin op_shr (snd_loc O n_67 (by decide +kernel)) (snd_loc O n_5 (by decide +kernel))))) (snd_ss_cons (snd_exp (by rfl) (snd_app O (by rfl) (by rfl) (by decide +kernel) (snd_attr O n_70 (by rfl) (snd_loc O n_0 (by decide +kernel))) (snd_bin op_and (snd_loc O n_27 (by decide +kernel)) (snd_attr O n_30 (by rfl) (snd_loc O n_0 (by decide +kernel)))))) snd_ss_nil))))) (by rfl)) snd_ss_nil))))))
theorem b_f14 {X : CA} (O : CxOk (theC X))  : SndSS (theC X) 0 (scOf (fnAt 32)) (ss_cons (s_asgA okA (e_loc .e) (.i (.o (.o (.i (.i .e))))) (e_bin2 mulL (e_lst (l_cons (e_lit (.int 0)) l_nil)) (e_attr (e_loc .e) (.i .e)))) (ss_cons (s_asg (.i (.i (.o (.i (.i .e))))) (e_bin iDiv (e_attr (e_loc .e) (.o (.i .e))) (e_lit (.int 2)))) (ss_cons (s_for (.one (.o (.i (.o (.i (.o .e)))))) (e_rng (l_cons (e_lit (.int 4)) l_nil)) (ss_cons (s_asg (.o (.i (.i (.i .e)))) (e_bin iMul (e_bin iMul (e_bin iShr (e_loc (.o (.i (.o (.i (.o .e)))))) (e_lit (.int 1))) (e_bin iSub (e_attr (e_loc .e) (.o (.i (.i (.o .e))))) (e_lit (.int 1)))) (e_attr (e_loc .e) (.o (.i .e))))) (ss_cons (s_asg (.o (.o (.o (.i (.o .e))))) (e_bin iSub (e_attr (e_loc .e) (.o (.i .e))) (e_lit (.int 1)))) (ss_cons (s_asg (.o (.i (.i (.i (.o .e))))) (e_lit (.int 1))) (ss_cons (s_ite (t_val (e_bin iAnd (e_loc (.o (.i (.o (.i (.o .e)))))) (e_lit (.int 1)))) (ss_cons (s_asg (.o (.o (.o (.i (.o .e))))) (e_lit (.int 0))) (ss_cons (s_asg (.o (.i (.i (.i (.o .e))))) (e_neg (e_lit (.int 1)))) ss_nil)) ss_nil) (ss_cons (s_asg (.o (.i (.o .e))) (e_bin iAdd (e_loc (.i (.i (.o (.i (.i .e)))))) (e_bin iMul (e_lit (.int 2)) (e_loc (.o (.i (.i (.i (.o .e))))))))) (ss_cons (s_ite (t_and true (t_val (e_attr (e_loc .e) (.i (.i (.o (.o (.o .e))))))) (t_and true (t_cmp cGt (e_bin iMul (e_bin iSub (e_loc (.o (.o (.o (.i (.o .e)))))) (e_loc (.o (.i (.o .e))))) (e_loc (.o (.i (.i (.i (.o .e))))))) (e_lit (.int 0))) (t_tt true))) (ss_cons (s_exp (e_app (e_attr (e_loc .e) (.o (.i (.o (.o (.o (.o .e))))))) (e_tup (l_cons (e_bin iAdd (e_loc (.o (.i (.i (.i .e))))) (e_loc (.i (.i (.o (.i (.i .e))))))) (l_cons (e_bin iAdd (e_loc (.o (.i (.i (.i .e))))) (e_loc (.o (.i (.o .e))))) (l_cons (e_bin iAdd (e_loc (.o (.i (.i (.i .e))))) (e_loc (.o (.o (.o (.i (.o .e))))))) (l_cons (e_bin iSub (e_bin iAdd (e_loc (.o (.i (.i (.i .e))))) (e_loc (.o (.i (.o .e))))) (e_loc (.o (.i (.i (.i (.o .e))))))) l_nil))))))) (ss_cons (s_augS (e_attr (e_loc .e) (.i (.o (.o (.i (.i .e)))))) (e_bin iAdd (e_loc (.o (.i (.i (.i .e))))) (e_loc (.i (.i (.o (.i (.i .e))))))) iOr (e_bin iShl (e_lit (.int 1)) (e_loc (.o (.i (.o (.i (.o .e)))))))) (ss_cons (s_augS (e_attr (e_loc .e) (.i (.o (.o (.i (.i .e)))))) (e_bin iAdd (e_loc (.o (.i (.i (.i .e))))) (e_loc (.o (.o (.o (.i (.o .e))))))) iOr (e_bin iShl (e_lit (.int 1)) (e_loc (.o (.i (.o (.i (.o .e)))))))) ss_nil))) (ss_cons (s_exp (e_app (e_attr (e_loc .e) (.o (.i (.o (.o (.o (.o .e))))))) (e_lit .none))) ss_nil)) ss_nil))))))) ss_nil))) (bodyOf (fnAt 32)) :=
  (snd_ss_cons (snd_asgA O n_56 (by rfl) (snd_loc O n_0 (by decide +kernel)) (snd_bin2 op_mulL (snd_lst (snd_l_cons (by rfl) snd_lit_int snd_l_nil)) (snd_attr O n_2 (by rfl) (snd_loc O n_0 (by decide +kernel))))) (snd_ss_cons (snd_asg O n_58 (by decide +kernel) (by rfl) (snd_bin op_div (snd_attr O n_5 (by rfl) (snd_loc O n_0 (by decide +kernel))) snd_lit_int)) (snd_ss_cons (snd_for O (.one n_41 (by decide +kernel)) (snd_rng O (by rfl) (by decide +kernel) (snd_l_cons (by rfl) snd_lit_int snd_l_nil)) (snd_ss_cons (snd_asg O n_29 (by decide +kernel) (by rfl) (snd_bin op_mul (snd_bin op_mul (snd_bin op_shr (snd_loc O n_41 (by decide +kernel)) snd_lit_int) (snd_bin op_sub (snd_attr O n_21 (by rfl) (snd_loc O n_0 (by decide +kernel))) snd_lit_int)) (snd_attr O n_5 (by rfl) (snd_loc O n_0 (by decide +kernel))))) (snd_ss_cons (snd_asg O n_39 (by decide +kernel) (by rfl) (snd_bin op_sub (snd_attr O n_5 (by rfl) (snd_loc O n_0 (by decide +kernel))) snd_lit_int)) (snd_ss_cons (snd_asg O n_45 (by decide +kernel) (by rfl) snd_lit_int) (snd_ss_cons (snd_ite (snd_t_val (by intros; rfl) (snd_bin op_and (snd_loc O n_41 (by decide +kernel)) snd_lit_int)) (snd_ss_cons (snd_asg O n_39 (by decide +kernel) (by rfl) snd_lit_int) (snd_ss_cons (snd_asg O n_45 (by decide +kernel) (by rfl) (snd_neg snd_lit_int)) snd_ss_nil)) snd_ss_nil) (snd_ss_cons (snd_asg O n_9 (by decide +kernel) (by rfl) (snd_bin op_add (snd_loc O n_58 (by decide +kernel)) (snd_bin op_mul snd_lit_int (snd_loc O n_45 (by decide +kernel))))) (snd_ss_cons (snd_ite (snd_t_bool (w := true) (snd_ts_cons (snd_t_val (by intros; rfl) (snd_attr O n_34 (by rfl) (snd_loc O n_0 (by decide +kernel)))) (snd_ts_cons (snd_t_cmp cmp_gt (snd_bin op_mul (snd_bin op_sub (snd_loc O n_39 (by decide +kernel)) (snd_loc O n_9 (by decide +kernel))) (snd_loc O n_45 (by decide +kernel))) snd_lit_int (by decide +kernel)) snd_ts_nil))) (snd_ss_cons (snd_exp (by rfl) (snd_app O (by rfl) (by rfl) (by decide +kernel) (snd_attr O n_65 (by rfl) (snd_loc O n_0 (by decide +kernel))) (snd_tup (snd_l_cons (by rfl) (snd_bin op_add (snd_loc O n_29 (by decide +kernel)) (snd_loc O n_58 (by decide +kernel))) (snd_l_cons (by rfl) (snd_bin op_add (snd_loc O n_29 (by decide +kernel)) (snd_loc O n_9 (by decide +kernel))) (snd_l_cons (by rfl) (snd_bin op_add (snd_loc O n_29 (by decide +kernel)) (snd_loc O n_39 (by decide +kernel))) (snd_l_cons (by rfl) (snd_bin op_sub (snd_bin op_add (snd_loc O n_29 (by decide +kernel)) (snd_loc O n_9 (by decide +kernel))) (snd_loc O n_45 (by decide +kernel))) snd_l_nil))))))) (snd_ss_cons (snd_augS op_or (by rfl) (snd_attr O n_56 (by rfl) (snd_loc O n_0 (by decide +kernel))) (snd_bin op_add (snd_loc O n_29 (by decide +kernel)) (snd_loc O n_58 (by decide +kernel))) (snd_bin op_shl snd_lit_int (snd_loc O n_41 (by decide +kernel)))) (snd_ss_cons (snd_augS op_or (by rfl) (snd_attr O n_56 (by rfl) (snd_loc O n_0 (by decide +kernel))) (snd_bin op_add (snd_loc O n_29 (by decide +kernel)) (snd_loc O n_39 (by decide +kernel))) (snd_bin op_shl snd_lit_int (snd_loc O n_41 (by decide +kernel)))) snd_ss_nil))) (snd_ss_cons (snd_exp (by rfl) (snd_app O (by rfl) (by rfl) (by decide +kernel) (snd_attr O n_65 (by rfl) (snd_loc O n_0 (by decide +kernel))) snd_lit_none)) snd_ss_nil)) snd_ss_nil)))))) (by rfl)) snd_ss_nil)))
theorem b_c0 {X : CA} (O : CxOk (theC X))  : SndSS (theC X) 0 (scOf (inAt 25)) (ss_cons (s_asgA okA (e_loc (.o (.o .e))) (.o (.i .e)) (e_loc (.o (.i .e)))) (ss_cons (s_asgA okA (e_loc (.o (.o .e))) (.o (.i (.i (.o .e)))) (e_loc (.o (.i (.i (.o .e)))))) (ss_cons (s_asgA okA (e_loc (.o (.o .e))) (.i .e) (e_bin iMul (e_loc (.o (.i .e))) (e_loc (.o (.i (.i (.o .e))))))) (ss_cons (s_asgA okA (e_loc (.o (.o .e))) (.i (.i (.i (.i .e)))) (e_bin iSub (e_bin iShl (e_lit (.int 1)) (e_bin iMul (e_loc (.o (.i .e))) (e_loc (.o (.i (.i (.o .e))))))) (e_lit (.int 1)))) (ss_cons (s_asgA okA (e_loc (.o (.o .e))) (.i (.o (.o (.i (.o .e))))) (e_bool true (e_loc (.i (.o (.o (.i (.o .e)))))) (e_cmp cGe (e_loc (.o (.i (.i (.o .e))))) (e_lit (.int 5))))) (ss_cons (s_asgA okA (e_loc (.o (.o .e))) (.i (.i (.o (.o (.o .e))))) (e_loc (.i (.i (.o (.o (.o .e))))))) (ss_cons (s_asgA okA (e_loc (.o (.o .e))) (.i (.i (.o (.i .e)))) (e_lst l_nil)) (ss_cons (s_asgA okA (e_loc (.o (.o .e))) (.i (.i (.i (.o (.i .e))))) (e_lst l_nil)) (ss_cons (s_asgA okA (e_loc (.o (.o .e))) (.o (.o (.o (.o (.o .e))))) (e_lst l_nil)) (ss_cons (s_asgA okA (e_loc (.o (.o .e))) (.o (.o (.o (.o .e)))) (e_lst l_nil)) (ss_cons (s_asgA okA (e_loc (.o (.o .e))) (.i (.i (.i (.o (.o (.o .e)))))) (e_lst l_nil)) (ss_cons (s_asgA okA (e_loc (.o (.o .e))) (.i (.o (.i (.o (.i .e))))) (e_lst (l_cons (e_lst l_nil) (l_cons (e_lst l_nil) l_nil)))) (ss_cons (s_asgA okA (e_loc (.o (.o .e))) (.o (.i (.o (.o (.o (.o .e)))))) (e_lst l_nil)) (ss_cons (s_asgA okA (e_loc (.o (.o .e))) (.i (.o (.o (.i (.i .e))))) (e_lst l_nil)) ss_nil)))))))))))))) (bodyOf (inAt 25)) :=
  (snd_ss_cons (snd_asgA O n_5 (by rfl) (snd_loc O n_3 (by decide +kernel)) (snd_loc O n_5 (by decide +kernel))) (snd_ss_cons (snd_asgA O n_21 (by rfl) (snd_loc O n_3 (by decide +kernel)) (snd_loc O n_21 (by decide +kernel))) (snd_ss_cons (snd_asgA O n_2 (by rfl) (snd_loc O n_3 (by decide +kernel)) (snd_bin op_mul (snd_loc O n_5 (by decide +kernel)) (snd_loc O n_21 (by decide +kernel)))) (snd_ss_cons (snd_asgA O n_30 (by rfl) (snd_loc O n_3 (by decide +kernel)) (snd_bin op_sub (snd_bin op_shl snd_lit_int (snd_bin op_mul (snd_loc O n_5 (by decide +kernel)) (snd_loc O n_21 (by decide +kernel)))) snd_lit_int)) (snd_ss_cons (snd_asgA O n_40 (by rfl) (snd_loc O n_3 (by decide +kernel)) (snd_bool (w := true) (snd_b_cons (snd_loc O n_40 (by decide +kernel)) (snd_b_one (snd_cmp cmp_ge (snd_loc O n_21 (by decide +kernel)) snd_lit_int (by decide +kernel)))))) (snd_ss_cons (snd_asgA O n_34 (by rfl) (snd_loc O n_3 (by decide +kernel)) (snd_loc O n_34 (by decide +kernel))) (snd_ss_cons (snd_asgA O n_26 (by rfl) (snd_loc O n_3 (by decide +kernel)) (snd_lst snd_l_nil)) (snd_ss_cons (snd_asgA O n_54 (by rfl) (snd_loc O n_3 (by decide +kernel)) (snd_lst snd_l_nil)) (snd_ss_cons (snd_asgA O n_31 (by rfl) (snd_loc O n_3 (by decide +kernel)) (snd_lst snd_l_nil)) (snd_ss_cons (snd_asgA O n_15 (by rfl) (snd_loc O n_3 (by decide +kernel)) (snd_lst snd_l_nil)) (snd_ss_cons (snd_asgA O n_70 (by rfl) (snd_loc O n_3 (by decide +kernel)) (snd_lst snd_l_nil)) (snd_ss_cons (snd_asgA O n_52 (by rfl) (snd_loc O n_3 (by decide +kernel)) (snd_lst (snd_l_cons (by rfl) (snd_lst snd_l_nil) (snd_l_cons (by rfl) (snd_lst snd_l_nil) snd_l_nil)))) (snd_ss_cons (snd_asgA O n_65 (by rfl) (snd_loc O n_3 (by decide +kernel)) (snd_lst snd_l_nil)) (snd_ss_cons (snd_asgA O n_56 (by rfl) (snd_loc O n_3 (by decide +kernel)) (snd_lst snd_l_nil)) snd_ss_nil))))))))))))))
theorem b_f15 {X : CA} (O : CxOk (theC X)) (h_Geometry : Maker X 1 0 c0 (Str.ofString "Geometry")) (h_add_castles : Callee X 1 f14 (Str.ofString "add_castles")) (h_add_knights : Callee X 1 f13 (Str.ofString "add_knights")) (h_add_masks : Callee X 1 f9 (Str.ofString "add_masks")) (h_add_pawns : Callee X 1 f12 (Str.ofString "add_pawns")) (h_add_rays : Callee X 2 f11 (Str.ofString "add_rays")) : SndSS (theC X) 3 (scOf (fnAt 33)) (ss_cons (s_ite (t_and false (t_cmp cLt (e_loc (.o (.i .e))) (e_lit (.int 2))) (t_and false (t_cmp cGt (e_loc (.o (.i .e))) (e_lit (.int 8))) (t_and false (t_cmp cLt (e_loc (.o (.i (.i (.o .e))))) (e_lit (.int 3))) (t_and false (t_cmp cGt (e_loc (.o (.i (.i (.o .e))))) (e_lit (.int 8))) (t_tt false))))) (ss_cons s_bad ss_nil) ss_nil) (ss_cons (s_asg .e (e_mk 0 c0 (l_cons (e_loc (.o (.i .e))) (l_cons (e_loc (.o (.i (.i (.o .e))))) (l_cons (e_loc (.i (.o (.o (.i (.o .e)))))) (l_cons (e_loc (.i (.i (.o (.o (.o .e)))))) l_nil)))))) (ss_cons (s_exp (e_call f9 (l_cons (e_loc .e) l_nil))) (ss_cons (s_exp (e_call f11 (l_cons (e_loc .e) l_nil))) (ss_cons (s_exp (e_call f12 (l_cons (e_loc .e) l_nil))) (ss_cons (s_exp (e_call f13 (l_cons (e_loc .e) l_nil))) (ss_cons (s_exp (e_call f14 (l_cons (e_loc .e) l_nil))) (ss_cons (s_ret (e_loc .e)) ss_nil)))))))) (bodyOf (fnAt 33)) :=
  (snd_ss_cons (snd_ite (snd_t_bool (w := false) (snd_ts_cons (snd_t_cmp cmp_lt (snd_loc O n_5 (by decide +kernel)) snd_lit_int (by decide +kernel)) (snd_ts_cons (snd_t_cmp cmp_gt (snd_loc O n_5 (by decide +kernel)) snd_lit_int (by decide +kernel)) (snd_ts_cons (snd_t_cmp cmp_lt (snd_loc O n_21 (by decide +kernel)) snd_lit_int (by decide +kernel)) (snd_ts_cons (snd_t_cmp cmp_gt (snd_loc O n_21 (by decide +kernel)) snd_lit_int (by decide +kernel)) snd_ts_nil))))) (snd_ss_cons snd_bad snd_ss_nil) snd_ss_nil) (snd_ss_cons (snd_asg O n_0 (by decide +kernel) (by rfl) (snd_maker O (h_Geometry.up (by decide +kernel)) (by decide +kernel) (by rfl) (by decide +kernel) (snd_l_cons (by rfl) (snd_loc O n_5 (by decide +kernel)) (snd_l_cons (by rfl) (snd_loc O n_21 (by decide +kernel)) (snd_l_cons (by rfl) (snd_loc O n_40 (by decide +kernel)) (snd_l_cons (by rfl) (snd_loc O n_34 (by decide +kernel)) snd_l_nil)))))) (snd_ss_cons (snd_exp (by rfl) (snd_callee O (h_add_masks.up (by decide +kernel)) (by decide +kernel) (by rfl) (by decide +kernel) (snd_l_cons (by rfl) (snd_loc O n_0 (by decide +kernel)) snd_l_nil))) (snd_ss_cons (snd_exp (by rfl) (snd_callee O (h_add_rays.up (by decide +kernel)) (by decide +kernel) (by rfl) (by decide +kernel) (snd_l_cons (by rfl) (snd_loc O n_0 (by decide +kernel)) snd_l_nil))) (snd_ss_cons (snd_exp (by rfl) (snd_callee O (h_add_pawns.up (by decide +kernel)) (by decide +kernel) (by rfl) (by decide +kernel) (snd_l_cons (by rfl) (snd_loc O n_0 (by decide +kernel)) snd_l_nil))) (snd_ss_cons (snd_exp (by rfl) (snd_callee O (h_add_knights.up (by decide +kernel)) (by decide +kernel) (by rfl) (by decide +kernel) (snd_l_cons (by rfl) (snd_loc O n_0 (by decide +kernel)) snd_l_nil))) (snd_ss_cons (snd_exp (by rfl) (snd_callee O (h_add_castles.up (by decide +kernel)) (by decide +kernel) (by rfl) (by decide +kernel) (snd_l_cons (by rfl) (snd_loc O n_0 (by decide +kernel)) snd_l_nil))) (snd_ss_cons (snd_ret (snd_loc O n_0 (by decide +kernel))) snd_ss_nil))))))))
theorem b_f16 {X : CA} (O : CxOk (theC X)) (h_kind_of : Callee X 1 f4 (Str.ofString "kind_of")) (h_side_of : Callee X 1 f3 (Str.ofString "side_of")) : SndSS (theC X) 1 (scOf (fnAt 36)) (ss_cons (s_asg (.i (.o (.o (.o (.o (.o .e)))))) (e_bin iShl (e_lit (.int 1)) (e_loc (.o (.i (.o (.i (.i .e)))))))) (ss_cons (s_asgS setL (e_attr (e_loc (.i (.i (.o (.o .e))))) (.o (.o (.o (.o (.i .e)))))) (e_loc (.o (.i (.o (.i (.i .e)))))) (e_loc (.i (.o .e)))) (ss_cons (s_augS (e_attr (e_loc (.i (.i (.o (.o .e))))) (.i (.i (.i (.o .e))))) (e_call f4 (l_cons (e_loc (.i (.o .e))) l_nil)) iOr (e_loc (.i (.o (.o (.o (.o (.o .e)))))))) (ss_cons (s_augS (e_attr (e_loc (.i (.i (.o (.o .e))))) (.i (.o (.o (.o (.o .e)))))) (e_call f3 (l_cons (e_loc (.i (.o .e))) l_nil)) iOr (e_loc (.i (.o (.o (.o (.o (.o .e)))))))) (ss_cons (s_augA okA (e_loc (.i (.i (.o (.o .e))))) (.i (.i (.i (.o (.i (.o .e)))))) iXor (e_sub subL (e_sub subL (e_attr (e_attr (e_loc (.i (.i (.o (.o .e))))) (.i (.o (.i (.i (.i .e)))))) (.o (.i (.i (.o (.i .e)))))) (e_loc (.i (.o .e)))) (e_loc (.o (.i (.o (.i (.i .e)))))))) ss_nil))))) (bodyOf (fnAt 36)) :=
  (snd_ss_cons (snd_asg O n_64 (by decide +kernel) (by rfl) (snd_bin op_shl snd_lit_int (snd_loc O n_57 (by decide +kernel)))) (snd_ss_cons (snd_asgS set_L (by rfl) (snd_attr O n_47 (by rfl) (snd_loc O n_18 (by decide +kernel))) (snd_loc O n_57 (by decide +kernel)) (snd_loc O n_4 (by decide +kernel))) (snd_ss_cons (snd_augS op_or (by rfl) (snd_attr O n_22 (by rfl) (snd_loc O n_18 (by decide +kernel))) (snd_callee O (h_kind_of.up (by decide +kernel)) (by decide +kernel) (by rfl) (by decide +kernel) (snd_l_cons (by rfl) (snd_loc O n_4 (by decide +kernel)) snd_l_nil)) (snd_loc O n_64 (by decide +kernel))) (snd_ss_cons (snd_augS op_or (by rfl) (snd_attr O n_32 (by rfl) (snd_loc O n_18 (by decide +kernel))) (snd_callee O (h_side_of.up (by decide +kernel)) (by decide +kernel) (by rfl) (by decide +kernel) (snd_l_cons (by rfl) (snd_loc O n_4 (by decide +kernel)) snd_l_nil)) (snd_loc O n_64 (by decide +kernel))) (snd_ss_cons (snd_augA O n_86 op_xor (snd_loc O n_18 (by decide +kernel)) (snd_sub sub_L (snd_sub sub_L (snd_attr O n_53 (by rfl) (snd_attr O n_60 (by rfl) (snd_loc O n_18 (by decide +kernel)))) (snd_loc O n_4 (by decide +kernel)) (by rfl)) (snd_loc O n_57 (by decide +kernel)) (by rfl))) snd_ss_nil)))))
theorem b_f17 {X : CA} (O : CxOk (theC X)) (h_is_growing : Callee X 1 f8 (Str.ofString "is_growing")) : SndSS (theC X) 1 (scOf (fnAt 38)) (ss_cons (s_asg (.o (.i (.o (.i .e)))) (e_sub subL (e_sub subL (e_attr (e_loc .e) (.o (.o (.o (.o (.o .e)))))) (e_loc (.i (.i (.o .e))))) (e_loc (.o .e)))) (ss_cons (s_asg (.i (.o (.i (.i (.o .e))))) (e_bin iAnd (e_loc (.o (.i (.o (.i .e))))) (e_loc (.i (.o (.o (.o .e))))))) (ss_cons (s_ite (t_cmp cEq (e_loc (.i (.o (.i (.i (.o .e)))))) (e_lit (.int 0))) (ss_cons (s_ret (e_loc (.o (.i (.o (.i .e)))))) ss_nil) ss_nil) (ss_cons (s_ite (t_val (e_call f8 (l_cons (e_loc (.i (.i (.o .e)))) l_nil))) (ss_cons (s_ret (e_bin iAnd (e_loc (.o (.i (.o (.i .e))))) (e_bin iXor (e_loc (.i (.o (.i (.i (.o .e)))))) (e_bin iSub (e_loc (.i (.o (.i (.i (.o .e)))))) (e_lit (.int 1)))))) ss_nil) ss_nil) (ss_cons (s_asg (.o (.i (.i .e))) (e_bin iShr (e_loc (.i (.o (.i (.i (.o .e)))))) (e_lit (.int 1)))) (ss_cons (s_aug (.o (.i (.i .e))) iOr (e_bin iShr (e_loc (.o (.i (.i .e)))) (e_lit (.int 1)))) (ss_cons (s_aug (.o (.i (.i .e))) iOr (e_bin iShr (e_loc (.o (.i (.i .e)))) (e_lit (.int 2)))) (ss_cons (s_aug (.o (.i (.i .e))) iOr (e_bin iShr (e_loc (.o (.i (.i .e)))) (e_lit (.int 4)))) (ss_cons (s_aug (.o (.i (.i .e))) iOr (e_bin iShr (e_loc (.o (.i (.i .e)))) (e_lit (.int 8)))) (ss_cons (s_aug (.o (.i (.i .e))) iOr (e_bin iShr (e_loc (.o (.i (.i .e)))) (e_lit (.int 16)))) (ss_cons (s_aug (.o (.i (.i .e))) iOr (e_bin iShr (e_loc (.o (.i (.i .e)))) (e_lit (.int 32)))) (ss_cons (s_ret (e_bin iAnd (e_loc (.o (.i (.o (.i .e))))) (e_inv (e_loc (.o (.i (.i .e))))))) ss_nil)))))))))))) (bodyOf (fnAt 38)) :=
  (snd_ss_cons (snd_asg O n_25 (by decide +kernel) (by rfl) (snd_sub sub_L (snd_sub sub_L (snd_attr O n_31 (by rfl) (snd_loc O n_0 (by decide +kernel))) (snd_loc O n_10 (by decide +kernel)) (by rfl)) (snd_loc O n_1 (by decide +kernel)) (by rfl))) (snd_ss_cons (snd_asg O n_44 (by decide +kernel) (by rfl) (snd_bin op_and (snd_loc O n_25 (by decide +kernel)) (snd_loc O n_16 (by decide +kernel)))) (snd_ss_cons (snd_ite (snd_t_cmp cmp_eq (snd_loc O n_44 (by decide +kernel)) snd_lit_int (by decide +kernel)) (snd_ss_cons (snd_ret (snd_loc O n_25 (by decide +kernel))) snd_ss_nil) snd_ss_nil) (snd_ss_cons (snd_ite (snd_t_val (by intros; rfl) (snd_callee O (h_is_growing.up (by decide +kernel)) (by decide +kernel) (by rfl) (by decide +kernel) (snd_l_cons (by rfl) (snd_loc O n_10 (by decide +kernel)) snd_l_nil))) (snd_ss_cons (snd_ret (snd_bin op_and (snd_loc O n_25 (by decide +kernel)) (snd_bin op_xor (snd_loc O n_44 (by decide +kernel)) (snd_bin op_sub (snd_loc O n_44 (by decide +kernel)) snd_lit_int)))) snd_ss_nil) snd_ss_nil) (snd_ss_cons (snd_asg O n_13 (by decide +kernel) (by rfl) (snd_bin op_shr (snd_loc O n_44 (by decide +kernel)) snd_lit_int)) (snd_ss_cons (snd_aug O n_13 (by decide +kernel) op_or (snd_bin op_shr (snd_loc O n_13 (by decide +kernel)) snd_lit_int)) (snd_ss_cons (snd_aug O n_13 (by decide +kernel) op_or (snd_bin op_shr (snd_loc O n_13 (by decide +kernel)) snd_lit_int)) (snd_ss_cons (snd_aug O n_13 (by decide +kernel) op_or (snd_bin op_shr (snd_loc O n_13 (by decide +kernel)) snd_lit_int)) (snd_ss_cons (snd_aug O n_13 (by decide +kernel) op_or (snd_bin op_shr (snd_loc O n_13 (by decide +kernel)) snd_lit_int)) (snd_ss_cons (snd_aug O n_13 (by decide +kernel) op_or (snd_bin op_shr (snd_loc O n_13 (by decide +kernel)) snd_lit_int)) (snd_ss_cons (snd_aug O n_13 (by decide +kernel) op_or (snd_bin op_shr (snd_loc O n_13 (by decide +kernel)) snd_lit_int)) (snd_ss_cons (snd_ret (snd_bin op_and (snd_loc O n_25 (by decide +kernel)) (snd_inv (snd_loc O n_13 (by decide +kernel))))) snd_ss_nil))))))))))))
theorem b_f18 {X : CA} (O : CxOk (theC X)) (h_ray_attacks : Callee X 2 f17 (Str.ofString "ray_attacks")) : SndSS (theC X) 2 (scOf (fnAt 39)) (ss_cons (s_asg (.o (.o (.i (.i .e)))) (e_lit (.int 0))) (ss_cons (s_for (.one (.i (.i (.o .e)))) (e_rng (l_cons (e_lit (.int 4)) l_nil)) (ss_cons (s_aug (.o (.o (.i (.i .e)))) iOr (e_call f17 (l_cons (e_loc .e) (l_cons (e_loc (.i (.i (.o .e)))) (l_cons (e_loc (.o .e)) (l_cons (e_loc (.i (.o (.o (.o .e))))) l_nil)))))) ss_nil)) (ss_cons (s_ret (e_loc (.o (.o (.i (.i .e)))))) ss_nil))) (bodyOf (fnAt 39)) :=
  (snd_ss_cons (snd_asg O n_27 (by decide +kernel) (by rfl) snd_lit_int) (snd_ss_cons (snd_for O (.one n_10 (by decide +kernel)) (snd_rng O (by rfl) (by decide +kernel) (snd_l_cons (by rfl) snd_lit_int snd_l_nil)) (snd_ss_cons (snd_aug O n_27 (by decide +kernel) op_or (snd_callee O (h_ray_attacks.up (by decide +kernel)) (by decide +kernel) (by rfl) (by decide +kernel) (snd_l_cons (by rfl) (snd_loc O n_0 (by decide +kernel)) (snd_l_cons (by rfl) (snd_loc O n_10 (by decide +kernel)) (snd_l_cons (by rfl) (snd_loc O n_1 (by decide +kernel)) (snd_l_cons (by rfl) (snd_loc O n_16 (by decide +kernel)) snd_l_nil)))))) snd_ss_nil) (by rfl)) (snd_ss_cons (snd_ret (snd_loc O n_27 (by decide +kernel))) snd_ss_nil)))
theorem b_f19 {X : CA} (O : CxOk (theC X)) (h_ray_attacks : Callee X 2 f17 (Str.ofString "ray_attacks")) : SndSS (theC X) 2 (scOf (fnAt 40)) (ss_cons (s_asg (.o (.o (.i (.i .e)))) (e_lit (.int 0))) (ss_cons (s_for (.one (.i (.i (.o .e)))) (e_rng (l_cons (e_lit (.int 4)) (l_cons (e_lit (.int 8)) l_nil))) (ss_cons (s_aug (.o (.o (.i (.i .e)))) iOr (e_call f17 (l_cons (e_loc .e) (l_cons (e_loc (.i (.i (.o .e)))) (l_cons (e_loc (.o .e)) (l_cons (e_loc (.i (.o (.o (.o .e))))) l_nil)))))) ss_nil)) (ss_cons (s_ret (e_loc (.o (.o (.i (.i .e)))))) ss_nil))) (bodyOf (fnAt 40)) :=
  (snd_ss_cons (snd_asg O n_27 (by decide +kernel) (by rfl) snd_lit_int) (snd_ss_cons (snd_for O (.one n_10 (by decide +kernel)) (snd_rng O (by rfl) (by decide +kernel) (snd_l_cons (by rfl) snd_lit_int (snd_l_cons (by rfl) snd_lit_int snd_l_nil))) (snd_ss_cons (snd_aug O n_27 (by decide +kernel) op_or (snd_callee O (h_ray_attacks.up (by decide +kernel)) (by decide +kernel) (by rfl) (by decide +kernel) (snd_l_cons (by rfl) (snd_loc O n_0 (by decide +kernel)) (snd_l_cons (by rfl) (snd_loc O n_10 (by decide +kernel)) (snd_l_cons (by rfl) (snd_loc O n_1 (by decide +kernel)) (snd_l_cons (by rfl) (snd_loc O n_16 (by decide +kernel)) snd_l_nil)))))) snd_ss_nil) (by rfl)) (snd_ss_cons (snd_ret (snd_loc O n_27 (by decide +kernel))) snd_ss_nil)))
theorem b_f20 {X : CA} (O : CxOk (theC X)) (h_bishop_attacks : Callee X 3 f19 (Str.ofString "bishop_attacks")) (h_rook_attacks : Callee X 3 f18 (Str.ofString "rook_attacks")) : SndSS (theC X) 3 (scOf (fnAt 41)) (ss_cons (s_ret (e_bin iOr (e_call f18 (l_cons (e_loc .e) (l_cons (e_loc (.o .e)) (l_cons (e_loc (.i (.o (.o (.o .e))))) l_nil)))) (e_call f19 (l_cons (e_loc .e) (l_cons (e_loc (.o .e)) (l_cons (e_loc (.i (.o (.o (.o .e))))) l_nil)))))) ss_nil) (bodyOf (fnAt 41)) :=
  (snd_ss_cons (snd_ret (snd_bin op_or (snd_callee O (h_rook_attacks.up (by decide +kernel)) (by decide +kernel) (by rfl) (by decide +kernel) (snd_l_cons (by rfl) (snd_loc O n_0 (by decide +kernel)) (snd_l_cons (by rfl) (snd_loc O n_1 (by decide +kernel)) (snd_l_cons (by rfl) (snd_loc O n_16 (by decide +kernel)) snd_l_nil)))) (snd_callee O (h_bishop_attacks.up (by decide +kernel)) (by decide +kernel) (by rfl) (by decide +kernel) (snd_l_cons (by rfl) (snd_loc O n_0 (by decide +kernel)) (snd_l_cons (by rfl) (snd_loc O n_1 (by decide +kernel)) (snd_l_cons (by rfl) (snd_loc O n_16 (by decide +kernel)) snd_l_nil)))))) snd_ss_nil)
theorem b_f21 {X : CA} (O : CxOk (theC X)) (h_bishop_attacks : Callee X 3 f19 (Str.ofString "bishop_attacks")) (h_queen_attacks : Callee X 4 f20 (Str.ofString "queen_attacks")) (h_rook_attacks : Callee X 3 f18 (Str.ofString "rook_attacks")) : SndSS (theC X) 4 (scOf (fnAt 42)) (ss_cons (s_ite (t_cmp cEq (e_loc (.o (.o (.o .e)))) (e_lit (.int 3))) (ss_cons (s_ret (e_call f19 (l_cons (e_loc .e) (l_cons (e_loc (.o .e)) (l_cons (e_loc (.i (.o (.o (.o .e))))) l_nil))))) ss_nil) ss_nil) (ss_cons (s_ite (t_cmp cEq (e_loc (.o (.o (.o .e)))) (e_lit (.int 4))) (ss_cons (s_ret (e_call f18 (l_cons (e_loc .e) (l_cons (e_loc (.o .e)) (l_cons (e_loc (.i (.o (.o (.o .e))))) l_nil))))) ss_nil) ss_nil) (ss_cons (s_ite (t_cmp cEq (e_loc (.o (.o (.o .e)))) (e_lit (.int 5))) (ss_cons (s_ret (e_call f20 (l_cons (e_loc .e) (l_cons (e_loc (.o .e)) (l_cons (e_loc (.i (.o (.o (.o .e))))) l_nil))))) ss_nil) ss_nil) (ss_cons (s_ret (e_lit (.int 0))) ss_nil)))) (bodyOf (fnAt 42)) :=
  (snd_ss_cons (snd_ite (snd_t_cmp cmp_eq (snd_loc O n_7 (by decide +kernel)) (snd_glo O g_3 (by decide +kernel)) (by decide +kernel)) (snd_ss_cons (snd_ret (snd_callee O (h_bishop_attacks.up (by decide +kernel)) (by decide +kernel) (by rfl) (by decide +kernel) (snd_l_cons (by rfl) (snd_loc O n_0 (by decide +kernel)) (snd_l_cons (by rfl) (snd_loc O n_1 (by decide +kernel)) (snd_l_cons (by rfl) (snd_loc O n_16 (by decide +kernel)) snd_l_nil))))) snd_ss_nil) snd_ss_nil) (snd_ss_cons (snd_ite (snd_t_cmp cmp_eq (snd_loc O n_7 (by decide +kernel)) (snd_glo O g_4 (by decide +kernel)) (by decide +kernel)) (snd_ss_cons (snd_ret (snd_callee O (h_rook_attacks.up (by decide +kernel)) (by decide +kernel) (by rfl) (by decide +kernel) (snd_l_cons (by rfl) (snd_loc O n_0 (by decide +kernel)) (snd_l_cons (by rfl) (snd_loc O n_1 (by decide +kernel)) (snd_l_cons (by rfl) (snd_loc O n_16 (by decide +kernel)) snd_l_nil))))) snd_ss_nil) snd_ss_nil) (snd_ss_cons (snd_ite (snd_t_cmp cmp_eq (snd_loc O n_7 (by decide +kernel)) (snd_glo O g_5 (by decide +kernel)) (by decide +kernel)) (snd_ss_cons (snd_ret (snd_callee O (h_queen_attacks.up (by decide +kernel)) (by decide +kernel) (by rfl) (by decide +kernel) (snd_l_cons (by rfl) (snd_loc O n_0 (by decide +kernel)) (snd_l_cons (by rfl) (snd_loc O n_1 (by decide +kernel)) (snd_l_cons (by rfl) (snd_loc O n_16 (by decide +kernel)) snd_l_nil))))) snd_ss_nil) snd_ss_nil) (snd_ss_cons (snd_ret snd_lit_int) snd_ss_nil))))
theorem b_f22 {X : CA} (O : CxOk (theC X)) (h_slider_attacks : Callee X 5 f21 (Str.ofString "slider_attacks")) : SndSS (theC X) 5 (scOf (fnAt 43)) (ss_cons (s_ite (t_cmp cEq (e_loc (.o (.o (.o .e)))) (e_lit (.int 1))) (ss_cons (s_ret (e_sub subL (e_sub subL (e_attr (e_loc .e) (.i (.o (.i (.o (.i .e)))))) (e_loc (.i (.i (.i .e))))) (e_loc (.o .e)))) ss_nil) ss_nil) (ss_cons (s_ite (t_cmp cEq (e_loc (.o (.o (.o .e)))) (e_lit (.int 2))) (ss_cons (s_ret (e_sub subL (e_attr (e_loc .e) (.i (.i (.i (.o (.o (.o .e))))))) (e_loc (.o .e)))) ss_nil) ss_nil) (ss_cons (s_ite (t_cmp cEq (e_loc (.o (.o (.o .e)))) (e_lit (.int 6))) (ss_cons (s_ret (e_sub subL (e_attr (e_loc .e) (.o (.o (.o (.o .e))))) (e_loc (.o .e)))) ss_nil) ss_nil) (ss_cons (s_ret (e_call f21 (l_cons (e_loc .e) (l_cons (e_loc (.o (.o (.o .e)))) (l_cons (e_loc (.o .e)) (l_cons (e_loc (.i (.o (.o (.o .e))))) l_nil)))))) ss_nil)))) (bodyOf (fnAt 43)) :=
  (snd_ss_cons (snd_ite (snd_t_cmp cmp_eq (snd_loc O n_7 (by decide +kernel)) (snd_glo O g_1 (by decide +kernel)) (by decide +kernel)) (snd_ss_cons (snd_ret (snd_sub sub_L (snd_sub sub_L (snd_attr O n_52 (by rfl) (snd_loc O n_0 (by decide +kernel))) (snd_loc O n_14 (by decide +kernel)) (by rfl)) (snd_loc O n_1 (by decide +kernel)) (by rfl))) snd_ss_nil) snd_ss_nil) (snd_ss_cons (snd_ite (snd_t_cmp cmp_eq (snd_loc O n_7 (by decide +kernel)) (snd_glo O g_2 (by decide +kernel)) (by decide +kernel)) (snd_ss_cons (snd_ret (snd_sub sub_L (snd_attr O n_70 (by rfl) (snd_loc O n_0 (by decide +kernel))) (snd_loc O n_1 (by decide +kernel)) (by rfl))) snd_ss_nil) snd_ss_nil) (snd_ss_cons (snd_ite (snd_t_cmp cmp_eq (snd_loc O n_7 (by decide +kernel)) (snd_glo O g_6 (by decide +kernel)) (by decide +kernel)) (snd_ss_cons (snd_ret (snd_sub sub_L (snd_attr O n_15 (by rfl) (snd_loc O n_0 (by decide +kernel))) (snd_loc O n_1 (by decide +kernel)) (by rfl))) snd_ss_nil) snd_ss_nil) (snd_ss_cons (snd_ret (snd_callee O (h_slider_attacks.up (by decide +kernel)) (by decide +kernel) (by rfl) (by decide +kernel) (snd_l_cons (by rfl) (snd_loc O n_0 (by decide +kernel)) (snd_l_cons (by rfl) (snd_loc O n_7 (by decide +kernel)) (snd_l_cons (by rfl) (snd_loc O n_1 (by decide +kernel)) (snd_l_cons (by rfl) (snd_loc O n_16 (by decide +kernel)) snd_l_nil)))))) snd_ss_nil))))
theorem b_f23 {X : CA} (O : CxOk (theC X))  : SndSS (theC X) 0 (scOf (fnAt 50)) (ss_cons (s_asg (.i (.o (.i (.i .e)))) (e_bin2 mulL (e_lst (l_cons (e_lit (.int (-1))) l_nil)) (e_len (e_loc (.i (.o (.o (.i .e)))))))) (ss_cons (s_asg (.o (.o (.i (.o (.i .e))))) (e_lst l_nil)) (ss_cons (s_asg (.i (.i (.i (.i (.i .e))))) (e_comp (.i (.o (.o .e))) (e_loc (.i (.o (.o (.i .e))))) (t_tt true) (e_lst l_nil))) (ss_cons (s_asg (.o (.o (.i (.i (.o .e))))) (e_lst l_nil)) (ss_cons (s_for (.one (.i (.o (.o .e)))) (e_rng (l_cons (e_len (e_loc (.i (.o (.o (.i .e)))))) l_nil)) (ss_cons (s_exp (e_app (e_loc (.o (.o (.i (.o (.i .e)))))) (e_len (e_sub subL (e_loc (.i (.o (.o (.i .e))))) (e_loc (.i (.o (.o .e)))))))) (ss_cons (s_for (.one (.i (.o (.i (.o (.o .e)))))) (e_sub subL (e_loc (.i (.o (.o (.i .e))))) (e_loc (.i (.o (.o .e))))) (ss_cons (s_ite (t_cmp cNe (e_loc (.i (.o (.i (.o (.o .e)))))) (e_lit (.int (-1)))) (ss_cons (s_exp (e_app (e_sub subL (e_loc (.i (.i (.i (.i (.i .e)))))) (e_loc (.i (.o (.i (.o (.o .e))))))) (e_loc (.i (.o (.o .e)))))) ss_nil) ss_nil) ss_nil)) (ss_cons (s_ite (t_val (e_sub subL (e_loc (.i (.i (.o (.i (.o .e)))))) (e_loc (.i (.o (.o .e)))))) (ss_cons (s_asgS setL (e_loc (.i (.o (.i (.i .e))))) (e_loc (.i (.o (.o .e)))) (e_lit (.int 0))) (ss_cons (s_exp (e_app (e_loc (.o (.o (.i (.i (.o .e)))))) (e_loc (.i (.o (.o .e)))))) ss_nil)) ss_nil) ss_nil)))) (ss_cons (s_asg (.i (.i (.i (.i (.o .e))))) (e_lit (.int 0))) (ss_cons (s_whl (t_cmp cLt (e_loc (.i (.i (.i (.i (.o .e)))))) (e_len (e_loc (.o (.o (.i (.i (.o .e)))))))) (ss_cons (s_asg (.i (.o (.i (.o (.o .e))))) (e_sub subL (e_loc (.o (.o (.i (.i (.o .e)))))) (e_loc (.i (.i (.i (.i (.o .e)))))))) (ss_cons (s_aug (.i (.i (.i (.i (.o .e))))) iAdd (e_lit (.int 1))) (ss_cons (s_for (.one (.i (.o (.o .e)))) (e_sub subL (e_loc (.i (.i (.i (.i (.i .e)))))) (e_loc (.i (.o (.i (.o (.o .e))))))) (ss_cons (s_augS (e_loc (.o (.o (.i (.o (.i .e)))))) (e_loc (.i (.o (.o .e)))) iSub (e_lit (.int 1))) (ss_cons (s_ite (t_and true (t_cmp cEq (e_sub subL (e_loc (.i (.o (.i (.i .e))))) (e_loc (.i (.o (.o .e))))) (e_lit (.int (-1)))) (t_and true (t_and false (t_cmp cEq (e_sub subL (e_loc (.i (.o (.o (.o (.o .e)))))) (e_loc (.i (.o (.o .e))))) (e_lit (.int 0))) (t_and false (t_cmp cEq (e_sub subL (e_loc (.o (.o (.i (.o (.i .e)))))) (e_loc (.i (.o (.o .e))))) (e_lit (.int 0))) (t_tt false))) (t_tt true))) (ss_cons (s_asgS setL (e_loc (.i (.o (.i (.i .e))))) (e_loc (.i (.o (.o .e)))) (e_bin iAdd (e_sub subL (e_loc (.i (.o (.i (.i .e))))) (e_loc (.i (.o (.i (.o (.o .e))))))) (e_lit (.int 1)))) (ss_cons (s_exp (e_app (e_loc (.o (.o (.i (.i (.o .e)))))) (e_loc (.i (.o (.o .e)))))) ss_nil)) ss_nil) ss_nil))) ss_nil)))) (ss_cons (s_ret (e_loc (.i (.o (.i (.i .e)))))) ss_nil)))))))) (bodyOf (fnAt 50)) :=
  (snd_ss_cons (snd_asg O n_28 (by decide +kernel) (by rfl) (snd_bin2 op_mulL (snd_lst (snd_l_cons (by rfl) (snd_glo O g_11 (by decide +kernel)) snd_l_nil)) (snd_len O (by rfl) (by decide +kernel) (snd_loc O n_24 (by decide +kernel))))) (snd_ss_cons (snd_asg O n_51 (by decide +kernel) (by rfl) (snd_lst snd_l_nil)) (snd_ss_cons (snd_asgC_local O n_62 (by decide +kernel) n_8 (by decide +kernel) (by decide +kernel) hdot snd_i_nil (snd_lst snd_l_nil) (snd_loc O n_24 (by decide +kernel)) (by rfl)) (snd_ss_cons (snd_asg O n_43 (by decide +kernel) (by rfl) (snd_lst snd_l_nil)) (snd_ss_cons (snd_for O (.one n_8 (by decide +kernel)) (snd_rng O (by rfl) (by decide +kernel) (snd_l_cons (by rfl) (snd_len O (by rfl) (by decide +kernel) (snd_loc O n_24 (by decide +kernel))) snd_l_nil)) (snd_ss_cons (snd_exp (by rfl) (snd_app O (by rfl) (by rfl) (by decide +kernel) (snd_loc O n_51 (by decide +kernel)) (snd_len O (by rfl) (by decide +kernel) (snd_sub sub_L (snd_loc O n_24 (by decide +kernel)) (snd_loc O n_8 (by decide +kernel)) (by rfl))))) (snd_ss_cons (snd_for O (.one n_36 (by decide +kernel)) (snd_sub sub_L (snd_loc O n_24 (by decide +kernel)) (snd_loc O n_8 (by decide +kernel)) (by rfl)) (snd_ss_cons (snd_ite (snd_t_cmp cmp_ne (snd_loc O n_36 (by decide +kernel)) (snd_glo O g_12 (by decide +kernel)) (by decide +kernel)) (snd_ss_cons (snd_exp (by rfl) (snd_app O (by rfl) (by rfl) (by decide +kernel) (snd_sub sub_L (snd_loc O n_62 (by decide +kernel)) (snd_loc O n_36 (by decide +kernel)) (by rfl)) (snd_loc O n_8 (by decide +kernel)))) snd_ss_nil) snd_ss_nil) snd_ss_nil) (by rfl)) (snd_ss_cons (snd_ite (snd_t_val (by intros; rfl) (snd_sub sub_L (snd_loc O n_42 (by decide +kernel)) (snd_loc O n_8 (by decide +kernel)) (by rfl))) (snd_ss_cons (snd_asgS set_L (by rfl) (snd_loc O n_28 (by decide +kernel)) (snd_loc O n_8 (by decide +kernel)) snd_lit_int) (snd_ss_cons (snd_exp (by rfl) (snd_app O (by rfl) (by rfl) (by decide +kernel) (snd_loc O n_43 (by decide +kernel)) (snd_loc O n_8 (by decide +kernel)))) snd_ss_nil)) snd_ss_nil) snd_ss_nil))) (by rfl)) (snd_ss_cons (snd_asg O n_46 (by decide +kernel) (by rfl) snd_lit_int) (snd_ss_cons (snd_whl O (snd_t_cmp cmp_lt (snd_loc O n_46 (by decide +kernel)) (snd_len O (by rfl) (by decide +kernel) (snd_loc O n_43 (by decide +kernel))) (by decide +kernel)) (snd_ss_cons (snd_asg O n_36 (by decide +kernel) (by rfl) (snd_sub sub_L (snd_loc O n_43 (by decide +kernel)) (snd_loc O n_46 (by decide +kernel)) (by rfl))) (snd_ss_cons (snd_aug O n_46 (by decide +kernel) op_add snd_lit_int) (snd_ss_cons (snd_for O (.one n_8 (by decide +kernel)) (snd_sub sub_L (snd_loc O n_62 (by decide +kernel)) (snd_loc O n_36 (by decide +kernel)) (by rfl)) (snd_ss_cons (snd_augS op_sub (by rfl) (snd_loc O n_51 (by decide +kernel)) (snd_loc O n_8 (by decide +kernel)) snd_lit_int) (snd_ss_cons (snd_ite (snd_t_bool (w := true) (snd_ts_cons (snd_t_cmp cmp_eq (snd_sub sub_L (snd_loc O n_28 (by decide +kernel)) (snd_loc O n_8 (by decide +kernel)) (by rfl)) (snd_glo O g_11 (by decide +kernel)) (by decide +kernel)) (snd_ts_cons (snd_t_bool (w := false) (snd_ts_cons (snd_t_cmp cmp_eq (snd_sub sub_L (snd_loc O n_32 (by decide +kernel)) (snd_loc O n_8 (by decide +kernel)) (by rfl)) (snd_glo O g_13 (by decide +kernel)) (by decide +kernel)) (snd_ts_cons (snd_t_cmp cmp_eq (snd_sub sub_L (snd_loc O n_51 (by decide +kernel)) (snd_loc O n_8 (by decide +kernel)) (by rfl)) snd_lit_int (by decide +kernel)) snd_ts_nil))) snd_ts_nil))) (snd_ss_cons (snd_asgS set_L (by rfl) (snd_loc O n_28 (by decide +kernel)) (snd_loc O n_8 (by decide +kernel)) (snd_bin op_add (snd_sub sub_L (snd_loc O n_28 (by decide +kernel)) (snd_loc O n_36 (by decide +kernel)) (by rfl)) snd_lit_int)) (snd_ss_cons (snd_exp (by rfl) (snd_app O (by rfl) (by rfl) (by decide +kernel) (snd_loc O n_43 (by decide +kernel)) (snd_loc O n_8 (by decide +kernel)))) snd_ss_nil)) snd_ss_nil) snd_ss_nil)) (by rfl)) snd_ss_nil)))) (snd_ss_cons (snd_ret (snd_loc O n_28 (by decide +kernel))) snd_ss_nil))))))))
theorem b_f24 {X : CA} (O : CxOk (theC X))  : SndSS (theC X) 0 (scOf (fnAt 51)) (ss_cons (s_ret (e_bin iAdd (e_bin iMul (e_bin iAdd (e_bin iMul (e_bin iAdd (e_bin iMul (e_loc (.i (.i (.i .e)))) (e_loc (.i .e))) (e_loc (.i (.i .e)))) (e_loc (.i .e))) (e_loc (.i (.o .e)))) (e_loc (.i .e))) (e_loc (.o (.o (.i .e)))))) ss_nil) (bodyOf (fnAt 51)) :=
  (snd_ss_cons (snd_ret (snd_bin op_add (snd_bin op_mul (snd_bin op_add (snd_bin op_mul (snd_bin op_add (snd_bin op_mul (snd_loc O n_14 (by decide +kernel)) (snd_loc O n_2 (by decide +kernel))) (snd_loc O n_6 (by decide +kernel))) (snd_loc O n_2 (by decide +kernel))) (snd_loc O n_4 (by decide +kernel))) (snd_loc O n_2 (by decide +kernel))) (snd_loc O n_11 (by decide +kernel)))) snd_ss_nil)
theorem b_f25 {X : CA} (O : CxOk (theC X))  : SndSS (theC X) 0 (scOf (fnAt 52)) (ss_cons (s_ret (e_tup (l_cons (e_bin iDiv (e_loc (.i (.o (.o .e)))) (e_bin iMul (e_bin iMul (e_loc (.i .e)) (e_loc (.i .e))) (e_loc (.i .e)))) (l_cons (e_bin iMod (e_bin iDiv (e_loc (.i (.o (.o .e)))) (e_bin iMul (e_loc (.i .e)) (e_loc (.i .e)))) (e_loc (.i .e))) (l_cons (e_bin iMod (e_bin iDiv (e_loc (.i (.o (.o .e)))) (e_loc (.i .e))) (e_loc (.i .e))) (l_cons (e_bin iMod (e_loc (.i (.o (.o .e)))) (e_loc (.i .e))) l_nil)))))) ss_nil) (bodyOf (fnAt 52)) :=
  (snd_ss_cons (snd_ret (snd_tup (snd_l_cons (by rfl) (snd_bin op_div (snd_loc O n_8 (by decide +kernel)) (snd_bin op_mul (snd_bin op_mul (snd_loc O n_2 (by decide +kernel)) (snd_loc O n_2 (by decide +kernel))) (snd_loc O n_2 (by decide +kernel)))) (snd_l_cons (by rfl) (snd_bin op_mod (snd_bin op_div (snd_loc O n_8 (by decide +kernel)) (snd_bin op_mul (snd_loc O n_2 (by decide +kernel)) (snd_loc O n_2 (by decide +kernel)))) (snd_loc O n_2 (by decide +kernel))) (snd_l_cons (by rfl) (snd_bin op_mod (snd_bin op_div (snd_loc O n_8 (by decide +kernel)) (snd_loc O n_2 (by decide +kernel))) (snd_loc O n_2 (by decide +kernel))) (snd_l_cons (by rfl) (snd_bin op_mod (snd_loc O n_8 (by decide +kernel)) (snd_loc O n_2 (by decide +kernel))) snd_l_nil)))))) snd_ss_nil)
theorem b_f26 {X : CA} (O : CxOk (theC X)) (h_index_of : Callee X 1 f24 (Str.ofString "index_of")) (h_piece_attacks : Callee X 6 f22 (Str.ofString "piece_attacks")) : SndSS (theC X) 6 (scOf (fnAt 53)) (ss_cons (s_asg (.i .e) (e_attr (e_loc .e) (.i .e))) (ss_cons (s_asg (.i (.o (.i (.o .e)))) (e_lst l_nil)) (ss_cons (s_for (.one (.i (.i .e))) (e_rng (l_cons (e_loc (.i .e)) l_nil)) (ss_cons (s_for (.one (.i (.o .e))) (e_rng (l_cons (e_loc (.i .e)) l_nil)) (ss_cons (s_asg (.o (.i (.i (.o (.o (.o .e)))))) (e_bin iAnd (e_attr (e_loc .e) (.i (.i (.i (.i .e))))) (e_inv (e_bin iOr (e_bin iOr (e_sub subL (e_attr (e_loc .e) (.o (.o (.o (.o .e))))) (e_loc (.i (.i .e)))) (e_bin iShl (e_lit (.int 1)) (e_loc (.i (.i .e))))) (e_bin iShl (e_lit (.int 1)) (e_loc (.i (.o .e)))))))) (ss_cons (s_ite (t_and false (t_cmp cEq (e_bin iAnd (e_bin iShr (e_loc (.o (.i (.i (.i (.i .e)))))) (e_loc (.i (.i .e)))) (e_lit (.int 1))) (e_lit (.int 0))) (t_and false (t_cmp cEq (e_loc (.i (.o .e))) (e_loc (.i (.i .e)))) (t_and false (t_cmp cEq (e_loc (.o (.i (.i (.o (.o (.o .e))))))) (e_lit (.int 0))) (t_tt false)))) (ss_cons s_cont ss_nil) ss_nil) (ss_cons (s_asg (.i (.i (.o (.o (.i (.o .e)))))) (e_call f22 (l_cons (e_loc .e) (l_cons (e_lit (.int 0)) (l_cons (e_loc (.o (.o (.o .e)))) (l_cons (e_loc (.i (.o .e))) (l_cons (e_bin iShl (e_lit (.int 1)) (e_loc (.i (.i .e)))) l_nil))))))) (ss_cons (s_for (.one (.o (.o (.i .e)))) (e_rng (l_cons (e_loc (.i .e)) l_nil)) (ss_cons (s_ite (t_val (e_bin iAnd (e_bin iShr (e_loc (.o (.i (.i (.o (.o (.o .e))))))) (e_loc (.o (.o (.i .e))))) (e_lit (.int 1)))) (ss_cons (s_exp (e_app (e_loc (.i (.o (.i (.o .e))))) (e_call f24 (l_cons (e_loc (.i .e)) (l_cons (e_lit (.int 1)) (l_cons (e_loc (.i (.i .e))) (l_cons (e_loc (.i (.o .e))) (l_cons (e_loc (.o (.o (.i .e)))) l_nil)))))))) (ss_cons (s_ite (t_cmp cEq (e_bin iAnd (e_bin iShr (e_loc (.i (.i (.o (.o (.i (.o .e))))))) (e_loc (.o (.o (.i .e))))) (e_lit (.int 1))) (e_lit (.int 0))) (ss_cons (s_exp (e_app (e_loc (.i (.o (.i (.o .e))))) (e_call f24 (l_cons (e_loc (.i .e)) (l_cons (e_lit (.int 0)) (l_cons (e_loc (.i (.i .e))) (l_cons (e_loc (.i (.o .e))) (l_cons (e_loc (.o (.o (.i .e)))) l_nil)))))))) ss_nil) ss_nil) ss_nil)) ss_nil) ss_nil)) ss_nil))))) ss_nil)) (ss_cons (s_for (.one (.i (.o (.o .e)))) (e_loc (.i (.o (.i (.o .e))))) (ss_cons (s_asgS setR (e_loc (.i (.o (.i .e)))) (e_loc (.i (.o (.o .e)))) (e_lit (.int (-1)))) ss_nil)) (ss_cons (s_ret (e_loc (.i (.o (.i (.o .e)))))) ss_nil))))) (bodyOf (fnAt 53)) :=
  (snd_ss_cons (snd_asg O n_2 (by decide +kernel) (by rfl) (snd_attr O n_2 (by rfl) (snd_loc O n_0 (by decide +kernel)))) (snd_ss_cons (snd_asg O n_20 (by decide +kernel) (by rfl) (snd_lst snd_l_nil)) (snd_ss_cons (snd_for O (.one n_6 (by decide +kernel)) (snd_rng O (by rfl) (by decide +kernel) (snd_l_cons (by rfl) (snd_loc O n_2 (by decide +kernel)) snd_l_nil)) (snd_ss_cons (snd_for O (.one n_4 (by decide +kernel)) (snd_rng O (by rfl) (by decide +kernel) (snd_l_cons (by rfl) (snd_loc O n_2 (by decide +kernel)) snd_l_nil)) (snd_ss_cons (snd_asg O n_69 (by decide +kernel) (by rfl) (snd_bin op_and (snd_attr O n_30 (by rfl) (snd_loc O n_0 (by decide +kernel))) (snd_inv (snd_bin op_or (snd_bin op_or (snd_sub sub_L (snd_attr O n_15 (by rfl) (snd_loc O n_0 (by decide +kernel))) (snd_loc O n_6 (by decide +kernel)) (by rfl)) (snd_bin op_shl snd_lit_int (snd_loc O n_6 (by decide +kernel)))) (snd_bin op_shl snd_lit_int (snd_loc O n_4 (by decide +kernel))))))) (snd_ss_cons (snd_ite (snd_t_bool (w := false) (snd_ts_cons (snd_t_cmp cmp_eq (snd_bin op_and (snd_bin op_shr (snd_loc O n_61 (by decide +kernel)) (snd_loc O n_6 (by decide +kernel))) snd_lit_int) snd_lit_int (by decide +kernel)) (snd_ts_cons (snd_t_cmp cmp_eq (snd_loc O n_4 (by decide +kernel)) (snd_loc O n_6 (by decide +kernel)) (by decide +kernel)) (snd_ts_cons (snd_t_cmp cmp_eq (snd_loc O n_69 (by decide +kernel)) snd_lit_int (by decide +kernel)) snd_ts_nil)))) (snd_ss_cons snd_cont snd_ss_nil) snd_ss_nil) (snd_ss_cons (snd_asg O n_82 (by decide +kernel) (by rfl) (snd_callee O (h_piece_attacks.up (by decide +kernel)) (by decide +kernel) (by rfl) (by decide +kernel) (snd_l_cons (by rfl) (snd_loc O n_0 (by decide +kernel)) (snd_l_cons (by rfl) (snd_glo O g_0 (by decide +kernel)) (snd_l_cons (by rfl) (snd_loc O n_7 (by decide +kernel)) (snd_l_cons (by rfl) (snd_loc O n_4 (by decide +kernel)) (snd_l_cons (by rfl) (snd_bin op_shl snd_lit_int (snd_loc O n_6 (by decide +kernel))) snd_l_nil))))))) (snd_ss_cons (snd_for O (.one n_11 (by decide +kernel)) (snd_rng O (by rfl) (by decide +kernel) (snd_l_cons (by rfl) (snd_loc O n_2 (by decide +kernel)) snd_l_nil)) (snd_ss_cons (snd_ite (snd_t_val (by intros; rfl) (snd_bin op_and (snd_bin op_shr (snd_loc O n_69 (by decide +kernel)) (snd_loc O n_11 (by decide +kernel))) snd_lit_int)) (snd_ss_cons (snd_exp (by rfl) (snd_app O (by rfl) (by rfl) (by decide +kernel) (snd_loc O n_20 (by decide +kernel)) (snd_callee O (h_index_of.up (by decide +kernel)) (by decide +kernel) (by rfl) (by decide +kernel) (snd_l_cons (by rfl) (snd_loc O n_2 (by decide +kernel)) (snd_l_cons (by rfl) (snd_glo O g_14 (by decide +kernel)) (snd_l_cons (by rfl) (snd_loc O n_6 (by decide +kernel)) (snd_l_cons (by rfl) (snd_loc O n_4 (by decide +kernel)) (snd_l_cons (by rfl) (snd_loc O n_11 (by decide +kernel)) snd_l_nil)))))))) (snd_ss_cons (snd_ite (snd_t_cmp cmp_eq (snd_bin op_and (snd_bin op_shr (snd_loc O n_82 (by decide +kernel)) (snd_loc O n_11 (by decide +kernel))) snd_lit_int) snd_lit_int (by decide +kernel)) (snd_ss_cons (snd_exp (by rfl) (snd_app O (by rfl) (by rfl) (by decide +kernel) (snd_loc O n_20 (by decide +kernel)) (snd_callee O (h_index_of.up (by decide +kernel)) (by decide +kernel) (by rfl) (by decide +kernel) (snd_l_cons (by rfl) (snd_loc O n_2 (by decide +kernel)) (snd_l_cons (by rfl) (snd_glo O g_13 (by decide +kernel)) (snd_l_cons (by rfl) (snd_loc O n_6 (by decide +kernel)) (snd_l_cons (by rfl) (snd_loc O n_4 (by decide +kernel)) (snd_l_cons (by rfl) (snd_loc O n_11 (by decide +kernel)) snd_l_nil)))))))) snd_ss_nil) snd_ss_nil) snd_ss_nil)) snd_ss_nil) snd_ss_nil) (by rfl)) snd_ss_nil)))) (by rfl)) snd_ss_nil) (by rfl)) (snd_ss_cons (snd_for O (.one n_8 (by decide +kernel)) (snd_loc O n_20 (by decide +kernel)) (snd_ss_cons (snd_asgS set_R (by rfl) (snd_loc O n_12 (by decide +kernel)) (snd_loc O n_8 (by decide +kernel)) (snd_glo O g_11 (by decide +kernel))) snd_ss_nil) (by rfl)) (snd_ss_cons (snd_ret (snd_loc O n_20 (by decide +kernel))) snd_ss_nil)))))
theorem b_f27 {X : CA} (O : CxOk (theC X)) (h_index_of : Callee X 1 f24 (Str.ofString "index_of")) : SndSS (theC X) 1 (scOf (fnAt 54)) (ss_cons (s_asg (.o (.o (.o (.i .e)))) (e_lst l_nil)) (ss_cons (s_asg (.o (.o (.i (.i (.i .e))))) (e_sub subL (e_attr (e_loc .e) (.o (.o (.o (.o .e))))) (e_loc (.o (.o (.i .e)))))) (ss_cons (s_for (.one (.o (.i (.o .e)))) (e_rng (l_cons (e_attr (e_loc .e) (.i .e)) l_nil)) (ss_cons (s_ite (t_cmp cEq (e_bin iAnd (e_bin iShr (e_loc (.o (.o (.i (.i (.i .e)))))) (e_loc (.o (.i (.o .e))))) (e_lit (.int 1))) (e_lit (.int 0))) (ss_cons s_cont ss_nil) ss_nil) (ss_cons (s_ite (t_cmp cEq (e_loc (.o (.i (.o .e)))) (e_loc (.i (.o .e)))) (ss_cons (s_ite (t_cmp cEq (e_bin iAnd (e_bin iShr (e_sub subL (e_attr (e_loc .e) (.o (.o (.o (.o .e))))) (e_loc (.i (.i .e)))) (e_loc (.i (.o .e)))) (e_lit (.int 1))) (e_lit (.int 0))) (ss_cons (s_exp (e_app (e_loc (.o (.o (.o (.i .e))))) (e_tup (l_cons (e_loc (.o (.o (.i .e)))) (l_cons (e_loc (.o (.i (.o .e)))) (l_cons (e_lit (.int (-1))) l_nil)))))) ss_nil) ss_nil) ss_nil) (ss_cons (s_asg (.o (.i (.o (.o .e)))) (e_call f24 (l_cons (e_attr (e_loc .e) (.i .e)) (l_cons (e_lit (.int 0)) (l_cons (e_loc (.i (.i .e))) (l_cons (e_loc (.i (.o .e))) (l_cons (e_loc (.o (.i (.o .e)))) l_nil))))))) (ss_cons (s_ite (t_cmp cNe (e_sub subA (e_loc (.i (.o (.i .e)))) (e_loc (.o (.i (.o (.o .e)))))) (e_lit (.int (-2)))) (ss_cons (s_exp (e_app (e_loc (.o (.o (.o (.i .e))))) (e_tup (l_cons (e_loc (.o (.o (.i .e)))) (l_cons (e_loc (.o (.i (.o .e)))) (l_cons (e_loc (.o (.i (.o (.o .e))))) l_nil)))))) ss_nil) ss_nil) ss_nil))) ss_nil))) (ss_cons (s_ret (e_loc (.o (.o (.o (.i .e)))))) ss_nil)))) (bodyOf (fnAt 54)) :=
  (snd_ss_cons (snd_asg O n_23 (by decide +kernel) (by rfl) (snd_lst snd_l_nil)) (snd_ss_cons (snd_asg O n_59 (by decide +kernel) (by rfl) (snd_sub sub_L (snd_attr O n_15 (by rfl) (snd_loc O n_0 (by decide +kernel))) (snd_loc O n_11 (by decide +kernel)) (by rfl))) (snd_ss_cons (snd_for O (.one n_9 (by decide +kernel)) (snd_rng O (by rfl) (by decide +kernel) (snd_l_cons (by rfl) (snd_attr O n_2 (by rfl) (snd_loc O n_0 (by decide +kernel))) snd_l_nil)) (snd_ss_cons (snd_ite (snd_t_cmp cmp_eq (snd_bin op_and (snd_bin op_shr (snd_loc O n_59 (by decide +kernel)) (snd_loc O n_9 (by decide +kernel))) snd_lit_int) snd_lit_int (by decide +kernel)) (snd_ss_cons snd_cont snd_ss_nil) snd_ss_nil) (snd_ss_cons (snd_ite (snd_t_cmp cmp_eq (snd_loc O n_9 (by decide +kernel)) (snd_loc O n_4 (by decide +kernel)) (by decide +kernel)) (snd_ss_cons (snd_ite (snd_t_cmp cmp_eq (snd_bin op_and (snd_bin op_shr (snd_sub sub_L (snd_attr O n_15 (by rfl) (snd_loc O n_0 (by decide +kernel))) (snd_loc O n_6 (by decide +kernel)) (by rfl)) (snd_loc O n_4 (by decide +kernel))) snd_lit_int) snd_lit_int (by decide +kernel)) (snd_ss_cons (snd_exp (by rfl) (snd_app O (by rfl) (by rfl) (by decide +kernel) (snd_loc O n_23 (by decide +kernel)) (snd_tup (snd_l_cons (by rfl) (snd_loc O n_11 (by decide +kernel)) (snd_l_cons (by rfl) (snd_loc O n_9 (by decide +kernel)) (snd_l_cons (by rfl) (snd_glo O g_12 (by decide +kernel)) snd_l_nil)))))) snd_ss_nil) snd_ss_nil) snd_ss_nil) (snd_ss_cons (snd_asg O n_17 (by decide +kernel) (by rfl) (snd_callee O (h_index_of.up (by decide +kernel)) (by decide +kernel) (by rfl) (by decide +kernel) (snd_l_cons (by rfl) (snd_attr O n_2 (by rfl) (snd_loc O n_0 (by decide +kernel))) (snd_l_cons (by rfl) (snd_glo O g_13 (by decide +kernel)) (snd_l_cons (by rfl) (snd_loc O n_6 (by decide +kernel)) (snd_l_cons (by rfl) (snd_loc O n_4 (by decide +kernel)) (snd_l_cons (by rfl) (snd_loc O n_9 (by decide +kernel)) snd_l_nil))))))) (snd_ss_cons (snd_ite (snd_t_cmp cmp_ne (snd_sub sub_A (snd_loc O n_12 (by decide +kernel)) (snd_loc O n_17 (by decide +kernel)) (by rfl)) (snd_glo O g_10 (by decide +kernel)) (by decide +kernel)) (snd_ss_cons (snd_exp (by rfl) (snd_app O (by rfl) (by rfl) (by decide +kernel) (snd_loc O n_23 (by decide +kernel)) (snd_tup (snd_l_cons (by rfl) (snd_loc O n_11 (by decide +kernel)) (snd_l_cons (by rfl) (snd_loc O n_9 (by decide +kernel)) (snd_l_cons (by rfl) (snd_loc O n_17 (by decide +kernel)) snd_l_nil)))))) snd_ss_nil) snd_ss_nil) snd_ss_nil))) snd_ss_nil)) (by rfl)) (snd_ss_cons (snd_ret (snd_loc O n_23 (by decide +kernel))) snd_ss_nil))))
theorem b_f28 {X : CA} (O : CxOk (theC X)) (h_index_of : Callee X 1 f24 (Str.ofString "index_of")) (h_piece_attacks : Callee X 6 f22 (Str.ofString "piece_attacks")) : SndSS (theC X) 6 (scOf (fnAt 55)) (ss_cons (s_asg (.o (.o (.o (.i .e)))) (e_lst l_nil)) (ss_cons (s_asg (.o (.o (.i (.i (.i .e))))) (e_sub subL (e_attr (e_loc .e) (.o (.o (.o (.o .e))))) (e_loc (.i (.i .e))))) (ss_cons (s_asg (.o (.o (.i (.i (.i (.o .e)))))) (e_call f22 (l_cons (e_loc .e) (l_cons (e_lit (.int 0)) (l_cons (e_loc (.o (.o (.o .e)))) (l_cons (e_loc (.i (.o .e))) (l_cons (e_bin iOr (e_bin iShl (e_lit (.int 1)) (e_loc (.i (.i .e)))) (e_bin iShl (e_lit (.int 1)) (e_loc (.o (.o (.i .e)))))) l_nil))))))) (ss_cons (s_for (.one (.o (.i (.o .e)))) (e_rng (l_cons (e_attr (e_loc .e) (.i .e)) l_nil)) (ss_cons (s_ite (t_val (e_bin iAnd (e_bin iShr (e_loc (.o (.o (.i (.i (.i .e)))))) (e_loc (.o (.i (.o .e))))) (e_lit (.int 1)))) (ss_cons (s_asg (.o (.i (.o (.o .e)))) (e_call f24 (l_cons (e_attr (e_loc .e) (.i .e)) (l_cons (e_lit (.int 1)) (l_cons (e_loc (.o (.i (.o .e)))) (l_cons (e_loc (.i (.o .e))) (l_cons (e_loc (.o (.o (.i .e)))) l_nil))))))) (ss_cons (s_ite (t_cmp cNe (e_sub subA (e_loc (.i (.o (.i .e)))) (e_loc (.o (.i (.o (.o .e)))))) (e_lit (.int (-2)))) (ss_cons (s_exp (e_app (e_loc (.o (.o (.o (.i .e))))) (e_tup (l_cons (e_loc (.i (.i .e))) (l_cons (e_loc (.o (.i (.o .e)))) (l_cons (e_loc (.o (.i (.o (.o .e))))) l_nil)))))) ss_nil) ss_nil) ss_nil)) ss_nil) ss_nil)) (ss_cons (s_for (.one (.o (.i (.o .e)))) (e_rng (l_cons (e_attr (e_loc .e) (.i .e)) l_nil)) (ss_cons (s_ite (t_val (e_bin iAnd (e_bin iShr (e_loc (.o (.o (.i (.i (.i (.o .e))))))) (e_loc (.o (.i (.o .e))))) (e_lit (.int 1)))) (ss_cons (s_asg (.o (.i (.o (.o .e)))) (e_call f24 (l_cons (e_attr (e_loc .e) (.i .e)) (l_cons (e_lit (.int 1)) (l_cons (e_loc (.i (.i .e))) (l_cons (e_loc (.o (.i (.o .e)))) (l_cons (e_loc (.o (.o (.i .e)))) l_nil))))))) (ss_cons (s_ite (t_cmp cNe (e_sub subA (e_loc (.i (.o (.i .e)))) (e_loc (.o (.i (.o (.o .e)))))) (e_lit (.int (-2)))) (ss_cons (s_exp (e_app (e_loc (.o (.o (.o (.i .e))))) (e_tup (l_cons (e_loc (.i (.o .e))) (l_cons (e_loc (.o (.i (.o .e)))) (l_cons (e_loc (.o (.i (.o (.o .e))))) l_nil)))))) ss_nil) ss_nil) ss_nil)) ss_nil) ss_nil)) (ss_cons (s_ret (e_loc (.o (.o (.o (.i .e)))))) ss_nil)))))) (bodyOf (fnAt 55)) :=
  (snd_ss_cons (snd_asg O n_23 (by decide +kernel) (by rfl) (snd_lst snd_l_nil)) (snd_ss_cons (snd_asg O n_59 (by decide +kernel) (by rfl) (snd_sub sub_L (snd_attr O n_15 (by rfl) (snd_loc O n_0 (by decide +kernel))) (snd_loc O n_6 (by decide +kernel)) (by rfl))) (snd_ss_cons (snd_asg O n_91 (by decide +kernel) (by rfl) (snd_callee O (h_piece_attacks.up (by decide +kernel)) (by decide +kernel) (by rfl) (by decide +kernel) (snd_l_cons (by rfl) (snd_loc O n_0 (by decide +kernel)) (snd_l_cons (by rfl) (snd_glo O g_0 (by decide +kernel)) (snd_l_cons (by rfl) (snd_loc O n_7 (by decide +kernel)) (snd_l_cons (by rfl) (snd_loc O n_4 (by decide +kernel)) (snd_l_cons (by rfl) (snd_bin op_or (snd_bin op_shl snd_lit_int (snd_loc O n_6 (by decide +kernel))) (snd_bin op_shl snd_lit_int (snd_loc O n_11 (by decide +kernel)))) snd_l_nil))))))) (snd_ss_cons (snd_for O (.one n_9 (by decide +kernel)) (snd_rng O (by rfl) (by decide +kernel) (snd_l_cons (by rfl) (snd_attr O n_2 (by rfl) (snd_loc O n_0 (by decide +kernel))) snd_l_nil)) (snd_ss_cons (snd_ite (snd_t_val (by intros; rfl) (snd_bin op_and (snd_bin op_shr (snd_loc O n_59 (by decide +kernel)) (snd_loc O n_9 (by decide +kernel))) snd_lit_int)) (snd_ss_cons (snd_asg O n_17 (by decide +kernel) (by rfl) (snd_callee O (h_index_of.up (by decide +kernel)) (by decide +kernel) (by rfl) (by decide +kernel) (snd_l_cons (by rfl) (snd_attr O n_2 (by rfl) (snd_loc O n_0 (by decide +kernel))) (snd_l_cons (by rfl) (snd_glo O g_14 (by decide +kernel)) (snd_l_cons (by rfl) (snd_loc O n_9 (by decide +kernel)) (snd_l_cons (by rfl) (snd_loc O n_4 (by decide +kernel)) (snd_l_cons (by rfl) (snd_loc O n_11 (by decide +kernel)) snd_l_nil))))))) (snd_ss_cons (snd_ite (snd_t_cmp cmp_ne (snd_sub sub_A (snd_loc O n_12 (by decide +kernel)) (snd_loc O n_17 (by decide +kernel)) (by rfl)) (snd_glo O g_10 (by decide +kernel)) (by decide +kernel)) (snd_ss_cons (snd_exp (by rfl) (snd_app O (by rfl) (by rfl) (by decide +kernel) (snd_loc O n_23 (by decide +kernel)) (snd_tup (snd_l_cons (by rfl) (snd_loc O n_6 (by decide +kernel)) (snd_l_cons (by rfl) (snd_loc O n_9 (by decide +kernel)) (snd_l_cons (by rfl) (snd_loc O n_17 (by decide +kernel)) snd_l_nil)))))) snd_ss_nil) snd_ss_nil) snd_ss_nil)) snd_ss_nil) snd_ss_nil) (by rfl)) (snd_ss_cons (snd_for O (.one n_9 (by decide +kernel)) (snd_rng O (by rfl) (by decide +kernel) (snd_l_cons (by rfl) (snd_attr O n_2 (by rfl) (snd_loc O n_0 (by decide +kernel))) snd_l_nil)) (snd_ss_cons (snd_ite (snd_t_val (by intros; rfl) (snd_bin op_and (snd_bin op_shr (snd_loc O n_91 (by decide +kernel)) (snd_loc O n_9 (by decide +kernel))) snd_lit_int)) (snd_ss_cons (snd_asg O n_17 (by decide +kernel) (by rfl) (snd_callee O (h_index_of.up (by decide +kernel)) (by decide +kernel) (by rfl) (by decide +kernel) (snd_l_cons (by rfl) (snd_attr O n_2 (by rfl) (snd_loc O n_0 (by decide +kernel))) (snd_l_cons (by rfl) (snd_glo O g_14 (by decide +kernel)) (snd_l_cons (by rfl) (snd_loc O n_6 (by decide +kernel)) (snd_l_cons (by rfl) (snd_loc O n_9 (by decide +kernel)) (snd_l_cons (by rfl) (snd_loc O n_11 (by decide +kernel)) snd_l_nil))))))) (snd_ss_cons (snd_ite (snd_t_cmp cmp_ne (snd_sub sub_A (snd_loc O n_12 (by decide +kernel)) (snd_loc O n_17 (by decide +kernel)) (by rfl)) (snd_glo O g_10 (by decide +kernel)) (by decide +kernel)) (snd_ss_cons (snd_exp (by rfl) (snd_app O (by rfl) (by rfl) (by decide +kernel) (snd_loc O n_23 (by decide +kernel)) (snd_tup (snd_l_cons (by rfl) (snd_loc O n_4 (by decide +kernel)) (snd_l_cons (by rfl) (snd_loc O n_9 (by decide +kernel)) (snd_l_cons (by rfl) (snd_loc O n_17 (by decide +kernel)) snd_l_nil)))))) snd_ss_nil) snd_ss_nil) snd_ss_nil)) snd_ss_nil) snd_ss_nil) (by rfl)) (snd_ss_cons (snd_ret (snd_loc O n_23 (by decide +kernel))) snd_ss_nil))))))
theorem b_f29 {X : CA} (O : CxOk (theC X)) (h_strong_moves : Callee X 7 f28 (Str.ofString "strong_moves")) (h_weak_moves : Callee X 2 f27 (Str.ofString "weak_moves")) : SndSS (theC X) 7 (scOf (fnAt 56)) (ss_cons (s_ite (t_cmp cEq (e_loc (.i (.i (.i .e)))) (e_lit (.int 1))) (ss_cons (s_ret (e_call f27 (l_cons (e_loc .e) (l_cons (e_loc (.i (.o (.i .e)))) (l_cons (e_loc (.i (.i .e))) (l_cons (e_loc (.i (.o .e))) (l_cons (e_loc (.o (.o (.i .e)))) l_nil))))))) ss_nil) ss_nil) (ss_cons (s_ret (e_call f28 (l_cons (e_loc .e) (l_cons (e_loc (.i (.o (.i .e)))) (l_cons (e_loc (.o (.o (.o .e)))) (l_cons (e_loc (.i (.i .e))) (l_cons (e_loc (.i (.o .e))) (l_cons (e_loc (.o (.o (.i .e)))) l_nil)))))))) ss_nil)) (bodyOf (fnAt 56)) :=
  (snd_ss_cons (snd_ite (snd_t_cmp cmp_eq (snd_loc O n_14 (by decide +kernel)) (snd_glo O g_14 (by decide +kernel)) (by decide +kernel)) (snd_ss_cons (snd_ret (snd_callee O (h_weak_moves.up (by decide +kernel)) (by decide +kernel) (by rfl) (by decide +kernel) (snd_l_cons (by rfl) (snd_loc O n_0 (by decide +kernel)) (snd_l_cons (by rfl) (snd_loc O n_12 (by decide +kernel)) (snd_l_cons (by rfl) (snd_loc O n_6 (by decide +kernel)) (snd_l_cons (by rfl) (snd_loc O n_4 (by decide +kernel)) (snd_l_cons (by rfl) (snd_loc O n_11 (by decide +kernel)) snd_l_nil))))))) snd_ss_nil) snd_ss_nil) (snd_ss_cons (snd_ret (snd_callee O (h_strong_moves.up (by decide +kernel)) (by decide +kernel) (by rfl) (by decide +kernel) (snd_l_cons (by rfl) (snd_loc O n_0 (by decide +kernel)) (snd_l_cons (by rfl) (snd_loc O n_12 (by decide +kernel)) (snd_l_cons (by rfl) (snd_loc O n_7 (by decide +kernel)) (snd_l_cons (by rfl) (snd_loc O n_6 (by decide +kernel)) (snd_l_cons (by rfl) (snd_loc O n_4 (by decide +kernel)) (snd_l_cons (by rfl) (snd_loc O n_11 (by decide +kernel)) snd_l_nil)))))))) snd_ss_nil))
theorem b_f30 {X : CA} (O : CxOk (theC X)) (h_mark_places : Callee X 7 f26 (Str.ofString "mark_places")) (h_moves_at : Callee X 8 f29 (Str.ofString "moves_at")) (h_parts_of : Callee X 1 f25 (Str.ofString "parts_of")) (h_solve : Callee X 1 f23 (Str.ofString "solve")) : SndSS (theC X) 8 (scOf (fnAt 57)) (ss_cons (s_ite (t_and false (t_cmp cLt (e_loc (.o (.o (.o .e)))) (e_lit (.int 2))) (t_and false (t_cmp cGt (e_loc (.o (.o (.o .e)))) (e_lit (.int 5))) (t_tt false))) (ss_cons s_bad ss_nil) ss_nil) (ss_cons (s_asg (.i (.i (.o (.o (.i .e))))) (e_bin iMul (e_bin iMul (e_attr (e_loc .e) (.i .e)) (e_attr (e_loc .e) (.i .e))) (e_attr (e_loc .e) (.i .e)))) (ss_cons (s_asg (.i (.o (.i .e))) (e_bin2 mulA (e_lst (l_cons (e_lit (.int (-2))) l_nil)) (e_bin iMul (e_lit (.int 2)) (e_loc (.i (.i (.o (.o (.i .e))))))))) (ss_cons (s_asg (.i (.o (.i (.o .e)))) (e_call f26 (l_cons (e_loc .e) (l_cons (e_loc (.o (.o (.o .e)))) (l_cons (e_loc (.o (.i (.i (.i (.i .e)))))) (l_cons (e_loc (.i (.o (.i .e)))) l_nil)))))) (ss_cons (s_asg (.i (.o (.o (.o (.i (.o .e)))))) (e_dict1 (e_lit (.int (-1))) (e_lit (.int (-1))))) (ss_cons (s_for (.one (.o (.o (.i (.o (.o .e)))))) (e_rng (l_cons (e_len (e_loc (.i (.o (.i (.o .e)))))) l_nil)) (ss_cons (s_asgS setD (e_loc (.i (.o (.o (.o (.i (.o .e))))))) (e_sub subL (e_loc (.i (.o (.i (.o .e))))) (e_loc (.o (.o (.i (.o (.o .e))))))) (e_loc (.o (.o (.i (.o (.o .e))))))) ss_nil)) (ss_cons (s_asg (.i (.o (.o (.o (.o .e))))) (e_lst l_nil)) (ss_cons (s_asg (.i (.o (.o (.i .e)))) (e_lst l_nil)) (ss_cons (s_asg (.i (.i (.o (.i (.o .e))))) (e_lst l_nil)) (ss_cons (s_for (.one (.i (.o (.o .e)))) (e_loc (.i (.o (.i (.o .e))))) (ss_cons (s_asgT [(.i (.i (.i .e))), (.i (.i .e)), (.i (.o .e)), (.o (.o (.i .e)))] (e_call f25 (l_cons (e_attr (e_loc .e) (.i .e)) (l_cons (e_loc (.i (.o (.o .e)))) l_nil)))) (ss_cons (s_asg (.i (.i (.i (.o (.o .e))))) (e_lst l_nil)) (ss_cons (s_for (.many [(.o (.i (.i (.i (.i (.o .e)))))), (.o (.i (.o .e))), (.o (.i (.o (.o .e))))]) (e_call f29 (l_cons (e_loc .e) (l_cons (e_loc (.i (.o (.i .e)))) (l_cons (e_loc (.o (.o (.o .e)))) (l_cons (e_loc (.i (.i (.i .e)))) (l_cons (e_loc (.i (.i .e))) (l_cons (e_loc (.i (.o .e))) (l_cons (e_loc (.o (.o (.i .e)))) l_nil)))))))) (ss_cons (s_exp (e_app (e_loc (.i (.i (.i (.o (.o .e)))))) (e_sub subD (e_loc (.i (.o (.o (.o (.i (.o .e))))))) (e_loc (.o (.i (.o (.o .e)))))))) ss_nil)) (ss_cons (s_exp (e_app (e_loc (.i (.o (.o (.o (.o .e)))))) (e_loc (.i (.i (.i .e)))))) (ss_cons (s_exp (e_app (e_loc (.i (.o (.o (.i .e))))) (e_loc (.i (.i (.i (.o (.o .e)))))))) (ss_cons (s_exp (e_app (e_loc (.i (.i (.o (.i (.o .e)))))) (e_bool true (e_cmp cEq (e_loc (.i (.i (.i .e)))) (e_lit (.int 1))) (e_bool true (e_cmp dEq (e_loc (.i (.i (.i (.o (.o .e)))))) (e_lst l_nil)) (e_cmp cEq (e_sub subA (e_loc (.i (.o (.i .e)))) (e_bin iSub (e_loc (.i (.o (.o .e)))) (e_loc (.i (.i (.o (.o (.i .e)))))))) (e_lit (.int (-2)))))))) ss_nil))))))) (ss_cons (s_asg (.i (.o (.i (.i .e)))) (e_call f23 (l_cons (e_loc (.i (.o (.o (.o (.o .e)))))) (l_cons (e_loc (.i (.o (.o (.i .e))))) (l_cons (e_loc (.i (.i (.o (.i (.o .e)))))) l_nil))))) (ss_cons (s_for (.one (.o (.o (.i (.o (.o .e)))))) (e_rng (l_cons (e_len (e_loc (.i (.o (.i (.o .e)))))) l_nil)) (ss_cons (s_asgS setR (e_loc (.i (.o (.i .e)))) (e_sub subL (e_loc (.i (.o (.i (.o .e))))) (e_loc (.o (.o (.i (.o (.o .e))))))) (e_sub subL (e_loc (.i (.o (.i (.i .e))))) (e_loc (.o (.o (.i (.o (.o .e)))))))) ss_nil)) (ss_cons (s_ret (e_loc (.i (.o (.i .e))))) ss_nil))))))))))))) (bodyOf (fnAt 57)) :=
  (snd_ss_cons (snd_ite (snd_t_bool (w := false) (snd_ts_cons (snd_t_cmp cmp_lt (snd_loc O n_7 (by decide +kernel)) (snd_glo O g_2 (by decide +kernel)) (by decide +kernel)) (snd_ts_cons (snd_t_cmp cmp_gt (snd_loc O n_7 (by decide +kernel)) (snd_glo O g_5 (by decide +kernel)) (by decide +kernel)) snd_ts_nil))) (snd_ss_cons snd_bad snd_ss_nil) snd_ss_nil) (snd_ss_cons (snd_asg O n_50 (by decide +kernel) (by rfl) (snd_bin op_mul (snd_bin op_mul (snd_attr O n_2 (by rfl) (snd_loc O n_0 (by decide +kernel))) (snd_attr O n_2 (by rfl) (snd_loc O n_0 (by decide +kernel)))) (snd_attr O n_2 (by rfl) (snd_loc O n_0 (by decide +kernel))))) (snd_ss_cons (snd_asg O n_12 (by decide +kernel) (by rfl) (snd_bin2 op_mulA (snd_lst (snd_l_cons (by rfl) (snd_glo O g_10 (by decide +kernel)) snd_l_nil)) (snd_bin op_mul snd_lit_int (snd_loc O n_50 (by decide +kernel))))) (snd_ss_cons (snd_asg O n_20 (by decide +kernel) (by rfl) (snd_callee O (h_mark_places.up (by decide +kernel)) (by decide +kernel) (by rfl) (by decide +kernel) (snd_l_cons (by rfl) (snd_loc O n_0 (by decide +kernel)) (snd_l_cons (by rfl) (snd_loc O n_7 (by decide +kernel)) (snd_l_cons (by rfl) (snd_loc O n_61 (by decide +kernel)) (snd_l_cons (by rfl) (snd_loc O n_12 (by decide +kernel)) snd_l_nil)))))) (snd_ss_cons (snd_asg O n_80 (by decide +kernel) (by rfl) (snd_dict1 (snd_glo O g_12 (by decide +kernel)) (snd_glo O g_12 (by decide +kernel)))) (snd_ss_cons (snd_for O (.one n_35 (by decide +kernel)) (snd_rng O (by rfl) (by decide +kernel) (snd_l_cons (by rfl) (snd_len O (by rfl) (by decide +kernel) (snd_loc O n_20 (by decide +kernel))) snd_l_nil)) (snd_ss_cons (snd_asgS set_D (by rfl) (snd_loc O n_80 (by decide +kernel)) (snd_sub sub_L (snd_loc O n_20 (by decide +kernel)) (snd_loc O n_35 (by decide +kernel)) (by rfl)) (snd_loc O n_35 (by decide +kernel))) snd_ss_nil) (by rfl)) (snd_ss_cons (snd_asg O n_32 (by decide +kernel) (by rfl) (snd_lst snd_l_nil)) (snd_ss_cons (snd_asg O n_24 (by decide +kernel) (by rfl) (snd_lst snd_l_nil)) (snd_ss_cons (snd_asg O n_42 (by decide +kernel) (by rfl) (snd_lst snd_l_nil)) (snd_ss_cons (snd_for O (.one n_8 (by decide +kernel)) (snd_loc O n_20 (by decide +kernel)) (snd_ss_cons (snd_asgT O (.cons n_14 (by decide +kernel) (.cons n_6 (by decide +kernel) (.cons n_4 (by decide +kernel) (.cons n_11 (by decide +kernel) .nil)))) (by rfl) (fun env _ _ => stores_none (by rfl) env) (snd_callee O (h_parts_of.up (by decide +kernel)) (by decide +kernel) (by rfl) (by decide +kernel) (snd_l_cons (by rfl) (snd_attr O n_2 (by rfl) (snd_loc O n_0 (by decide +kernel))) (snd_l_cons (by rfl) (snd_loc O n_8 (by decide +kernel)) snd_l_nil)))) (snd_ss_cons (snd_asg O n_38 (by decide +kernel) (by rfl) (snd_lst snd_l_nil)) (snd_ss_cons (snd_for O (.many (.cons n_93 (by decide +kernel) (.cons n_9 (by decide +kernel) (.cons n_17 (by decide +kernel) .nil)))) (snd_callee O (h_moves_at.up (by decide +kernel)) (by decide +kernel) (by rfl) (by decide +kernel) (snd_l_cons (by rfl) (snd_loc O n_0 (by decide +kernel)) (snd_l_cons (by rfl) (snd_loc O n_12 (by decide +kernel)) (snd_l_cons (by rfl) (snd_loc O n_7 (by decide +kernel)) (snd_l_cons (by rfl) (snd_loc O n_14 (by decide +kernel)) (snd_l_cons (by rfl) (snd_loc O n_6 (by decide +kernel)) (snd_l_cons (by rfl) (snd_loc O n_4 (by decide +kernel)) (snd_l_cons (by rfl) (snd_loc O n_11 (by decide +kernel)) snd_l_nil)))))))) (snd_ss_cons (snd_exp (by rfl) (snd_app O (by rfl) (by rfl) (by decide +kernel) (snd_loc O n_38 (by decide +kernel)) (snd_sub sub_D (snd_loc O n_80 (by decide +kernel)) (snd_loc O n_17 (by decide +kernel)) (by rfl)))) snd_ss_nil) (by rfl)) (snd_ss_cons (snd_exp (by rfl) (snd_app O (by rfl) (by rfl) (by decide +kernel) (snd_loc O n_32 (by decide +kernel)) (snd_loc O n_14 (by decide +kernel)))) (snd_ss_cons (snd_exp (by rfl) (snd_app O (by rfl) (by rfl) (by decide +kernel) (snd_loc O n_24 (by decide +kernel)) (snd_loc O n_38 (by decide +kernel)))) (snd_ss_cons (snd_exp (by rfl) (snd_app O (by rfl) (by rfl) (by decide +kernel) (snd_loc O n_42 (by decide +kernel)) (snd_bool (w := true) (snd_b_cons (snd_cmp cmp_eq (snd_loc O n_14 (by decide +kernel)) (snd_glo O g_14 (by decide +kernel)) (by decide +kernel)) (snd_b_cons (snd_cmp cmp_deq (snd_loc O n_38 (by decide +kernel)) (snd_lst snd_l_nil) (by decide +kernel)) (snd_b_one (snd_cmp cmp_eq (snd_sub sub_A (snd_loc O n_12 (by decide +kernel)) (snd_bin op_sub (snd_loc O n_8 (by decide +kernel)) (snd_loc O n_50 (by decide +kernel))) (by rfl)) (snd_glo O g_10 (by decide +kernel)) (by decide +kernel)))))))) snd_ss_nil)))))) (by rfl)) (snd_ss_cons (snd_asg O n_28 (by decide +kernel) (by rfl) (snd_callee O (h_solve.up (by decide +kernel)) (by decide +kernel) (by rfl) (by decide +kernel) (snd_l_cons (by rfl) (snd_loc O n_32 (by decide +kernel)) (snd_l_cons (by rfl) (snd_loc O n_24 (by decide +kernel)) (snd_l_cons (by rfl) (snd_loc O n_42 (by decide +kernel)) snd_l_nil))))) (snd_ss_cons (snd_for O (.one n_35 (by decide +kernel)) (snd_rng O (by rfl) (by decide +kernel) (snd_l_cons (by rfl) (snd_len O (by rfl) (by decide +kernel) (snd_loc O n_20 (by decide +kernel))) snd_l_nil)) (snd_ss_cons (snd_asgS set_R (by rfl) (snd_loc O n_12 (by decide +kernel)) (snd_sub sub_L (snd_loc O n_20 (by decide +kernel)) (snd_loc O n_35 (by decide +kernel)) (by rfl)) (snd_sub sub_L (snd_loc O n_28 (by decide +kernel)) (snd_loc O n_35 (by decide +kernel)) (by rfl))) snd_ss_nil) (by rfl)) (snd_ss_cons (snd_ret (snd_loc O n_12 (by decide +kernel))) snd_ss_nil)))))))))))))
theorem b_c1 {X : CA} (O : CxOk (theC X))  : SndSS (theC X) 0 (scOf (inAt 35)) (ss_cons (s_asgA okA (e_loc (.o (.o .e))) .e (e_loc .e)) (ss_cons (s_asgA okA (e_loc (.o (.o .e))) (.i (.o (.i (.i (.i .e))))) (e_loc (.i (.o (.i (.i (.i .e))))))) (ss_cons (s_asgA okA (e_loc (.o (.o .e))) (.o (.o (.o (.o (.i .e))))) (e_bin2 mulL (e_lst (l_cons (e_lit (.int 0)) l_nil)) (e_attr (e_loc .e) (.i .e)))) (ss_cons (s_asgA okA (e_loc (.o (.o .e))) (.i (.i (.i (.o .e)))) (e_bin2 mulL (e_lst (l_cons (e_lit (.int 0)) l_nil)) (e_lit (.int 7)))) (ss_cons (s_asgA okA (e_loc (.o (.o .e))) (.i (.o (.o (.o (.o .e))))) (e_lst (l_cons (e_lit (.int 0)) (l_cons (e_lit (.int 0)) l_nil)))) (ss_cons (s_asgA okA (e_loc (.o (.o .e))) (.i (.i (.i .e))) (e_lit (.int 0))) (ss_cons (s_asgA okA (e_loc (.o (.o .e))) (.o (.o (.o (.i (.i .e))))) (e_lit (.int 0))) (ss_cons (s_asgA okA (e_loc (.o (.o .e))) (.o (.i (.o (.o (.i .e))))) (e_neg (e_lit (.int 1)))) (ss_cons (s_asgA okA (e_loc (.o (.o .e))) (.i (.i (.o (.o (.i .e))))) (e_lit (.int 0))) (ss_cons (s_asgA okA (e_loc (.o (.o .e))) (.i (.i (.i (.i .e)))) (e_lit (.int 1))) (ss_cons (s_asgA okA (e_loc (.o (.o .e))) (.i (.i (.i (.o (.i (.o .e)))))) (e_lit (.int 0))) (ss_cons (s_asgA okA (e_loc (.o (.o .e))) (.i (.o (.i (.i (.i (.o .e)))))) (e_lst l_nil)) ss_nil)))))))))))) (bodyOf (inAt 35)) :=
  (snd_ss_cons (snd_asgA O n_0 (by rfl) (snd_loc O n_3 (by decide +kernel)) (snd_loc O n_0 (by decide +kernel))) (snd_ss_cons (snd_asgA O n_60 (by rfl) (snd_loc O n_3 (by decide +kernel)) (snd_loc O n_60 (by decide +kernel))) (snd_ss_cons (snd_asgA O n_47 (by rfl) (snd_loc O n_3 (by decide +kernel)) (snd_bin2 op_mulL (snd_lst (snd_l_cons (by rfl) (snd_glo O g_7 (by decide +kernel)) snd_l_nil)) (snd_attr O n_2 (by rfl) (snd_loc O n_0 (by decide +kernel))))) (snd_ss_cons (snd_asgA O n_22 (by rfl) (snd_loc O n_3 (by decide +kernel)) (snd_bin2 op_mulL (snd_lst (snd_l_cons (by rfl) snd_lit_int snd_l_nil)) snd_lit_int)) (snd_ss_cons (snd_asgA O n_32 (by rfl) (snd_loc O n_3 (by decide +kernel)) (snd_lst (snd_l_cons (by rfl) snd_lit_int (snd_l_cons (by rfl) snd_lit_int snd_l_nil)))) (snd_ss_cons (snd_asgA O n_14 (by rfl) (snd_loc O n_3 (by decide +kernel)) (snd_glo O g_0 (by decide +kernel))) (snd_ss_cons (snd_asgA O n_55 (by rfl) (snd_loc O n_3 (by decide +kernel)) snd_lit_int) (snd_ss_cons (snd_asgA O n_49 (by rfl) (snd_loc O n_3 (by decide +kernel)) (snd_neg snd_lit_int)) (snd_ss_cons (snd_asgA O n_50 (by rfl) (snd_loc O n_3 (by decide +kernel)) snd_lit_int) (snd_ss_cons (snd_asgA O n_30 (by rfl) (snd_loc O n_3 (by decide +kernel)) snd_lit_int) (snd_ss_cons (snd_asgA O n_86 (by rfl) (snd_loc O n_3 (by decide +kernel)) snd_lit_int) (snd_ss_cons (snd_asgA O n_92 (by rfl) (snd_loc O n_3 (by decide +kernel)) (snd_lst snd_l_nil)) snd_ss_nil))))))))))))
theorem b_c2 {X : CA} (O : CxOk (theC X))  : SndSS (theC X) 0 (scOf (inAt 59)) (ss_cons (s_asgA okA (e_loc (.o (.o .e))) (.o (.i (.i (.o (.i .e))))) (e_loc (.o (.i (.i (.o (.i .e))))))) (ss_cons (s_asgA okA (e_loc (.o (.o .e))) (.o (.i (.o (.o (.i .e))))) (e_loc (.o (.i (.o (.o (.i .e))))))) (ss_cons (s_asgA okA (e_loc (.o (.o .e))) (.o (.o (.o (.i (.i .e))))) (e_loc (.o (.o (.o (.i (.i .e))))))) (ss_cons (s_asgA okA (e_loc (.o (.o .e))) (.i (.i (.i .e))) (e_loc (.i (.i (.i .e))))) ss_nil)))) (bodyOf (inAt 59)) :=
  (snd_ss_cons (snd_asgA O n_53 (by rfl) (snd_loc O n_3 (by decide +kernel)) (snd_loc O n_53 (by decide +kernel))) (snd_ss_cons (snd_asgA O n_49 (by rfl) (snd_loc O n_3 (by decide +kernel)) (snd_loc O n_49 (by decide +kernel))) (snd_ss_cons (snd_asgA O n_55 (by rfl) (snd_loc O n_3 (by decide +kernel)) (snd_loc O n_55 (by decide +kernel))) (snd_ss_cons (snd_asgA O n_14 (by rfl) (snd_loc O n_3 (by decide +kernel)) (snd_loc O n_14 (by decide +kernel))) snd_ss_nil))))
theorem b_f31 {X : CA} (O : CxOk (theC X)) (h_Position : Maker X 1 1 c1 (Str.ofString "Position")) (h_Zobrist : Maker X 1 2 c2 (Str.ofString "Zobrist")) (h_make_piece : Callee X 1 f2 (Str.ofString "make_piece")) (h_put_piece : Callee X 2 f16 (Str.ofString "put_piece")) : SndSS (theC X) 3 (scOf (fnAt 61)) (ss_cons (s_asg (.i (.i (.o (.o .e)))) (e_mk 1 c1 (l_cons (e_loc .e) (l_cons (e_mk 2 c2 (l_cons (e_bin2 mulL (e_lst (l_cons (e_bin2 mulL (e_lst (l_cons (e_lit (.int 0)) l_nil)) (e_lit (.int 9))) l_nil)) (e_lit (.int 15))) (l_cons (e_bin2 mulL (e_lst (l_cons (e_lit (.int 0)) l_nil)) (e_lit (.int 3))) (l_cons (e_bin2 mulL (e_lst (l_cons (e_lit (.int 0)) l_nil)) (e_lit (.int 16))) (l_cons (e_lit (.int 0)) l_nil))))) l_nil)))) (ss_cons (s_for (.many [(.i (.i (.i .e))), (.o (.o (.o .e))), (.o .e)]) (e_loc (.o (.i (.i (.o (.o .e)))))) (ss_cons (s_exp (e_call f16 (l_cons (e_loc (.i (.i (.o (.o .e))))) (l_cons (e_call f2 (l_cons (e_bin iXor (e_loc (.i (.i (.i .e)))) (e_loc (.i (.i .e)))) (l_cons (e_loc (.o (.o (.o .e)))) l_nil))) (l_cons (e_loc (.o .e)) l_nil))))) ss_nil)) (ss_cons (s_ret (e_loc (.i (.i (.o (.o .e)))))) ss_nil))) (bodyOf (fnAt 61)) :=
  (snd_ss_cons (snd_asg O n_18 (by decide +kernel) (by rfl) (snd_maker O (h_Position.up (by decide +kernel)) (by decide +kernel) (by rfl) (by decide +kernel) (snd_l_cons (by rfl) (snd_loc O n_0 (by decide +kernel)) (snd_l_cons (by rfl) (snd_maker O (h_Zobrist.up (by decide +kernel)) (by decide +kernel) (by rfl) (by decide +kernel) (snd_l_cons (by rfl) (snd_bin2 op_mulL (snd_lst (snd_l_cons (by rfl) (snd_bin2 op_mulL (snd_lst (snd_l_cons (by rfl) snd_lit_int snd_l_nil)) snd_lit_int) snd_l_nil)) snd_lit_int) (snd_l_cons (by rfl) (snd_bin2 op_mulL (snd_lst (snd_l_cons (by rfl) snd_lit_int snd_l_nil)) snd_lit_int) (snd_l_cons (by rfl) (snd_bin2 op_mulL (snd_lst (snd_l_cons (by rfl) snd_lit_int snd_l_nil)) snd_lit_int) (snd_l_cons (by rfl) snd_lit_int snd_l_nil))))) snd_l_nil)))) (snd_ss_cons (snd_for O (.many (.cons n_14 (by decide +kernel) (.cons n_7 (by decide +kernel) (.cons n_1 (by decide +kernel) .nil)))) (snd_loc O n_37 (by decide +kernel)) (snd_ss_cons (snd_exp (by rfl) (snd_callee O (h_put_piece.up (by decide +kernel)) (by decide +kernel) (by rfl) (by decide +kernel) (snd_l_cons (by rfl) (snd_loc O n_18 (by decide +kernel)) (snd_l_cons (by rfl) (snd_callee O (h_make_piece.up (by decide +kernel)) (by decide +kernel) (by rfl) (by decide +kernel) (snd_l_cons (by rfl) (snd_bin op_xor (snd_loc O n_14 (by decide +kernel)) (snd_loc O n_6 (by decide +kernel))) (snd_l_cons (by rfl) (snd_loc O n_7 (by decide +kernel)) snd_l_nil))) (snd_l_cons (by rfl) (snd_loc O n_1 (by decide +kernel)) snd_l_nil))))) snd_ss_nil) (by rfl)) (snd_ss_cons (snd_ret (snd_loc O n_18 (by decide +kernel))) snd_ss_nil)))
theorem b_lawA {X : CA} (O : CxOk (theC X)) {sm : Nat → Int → Option Int} (hsm : ∀ k m z, sm k m = some z → m ≠ 0 ∧ (X.σ k).fmod m = z) (h__law_board : Callee X 4 f31 (Str.ofString "_law_board")) (h_build_zone : Callee X 9 f30 (Str.ofString "build_zone")) (h_index_of : Callee X 1 f24 (Str.ofString "index_of")) (h_is_insufficient : Callee X 3 f7 (Str.ofString "is_insufficient")) (h_make_geometry : Callee X 4 f15 (Str.ofString "make_geometry")) : SndSS (theC X) 9 (scOf (fnAt 62)) (ss_cons (s_asgT [(.o (.o (.o .e))), (.o (.o (.o (.o .e))))] (e_tup (l_cons (e_sub subT (e_tup (l_cons (e_lit (.int 4)) (l_cons (e_lit (.int 3)) (l_cons (e_lit (.int 2)) (l_cons (e_lit (.int 5)) l_nil))))) (e_bin2 (modS sm) (e_sub subP (e_loc (.i (.o (.o (.o (.i .e)))))) (e_lit (.int 0))) (e_lit (.int 4)))) (l_cons (e_sub subT (e_tup (l_cons (e_lit (.int 1)) (l_cons (e_lit (.int 3)) (l_cons (e_lit (.int 5)) (l_cons (e_lit (.int 7)) l_nil))))) (e_bin2 (modS sm) (e_sub subP (e_loc (.i (.o (.o (.o (.i .e)))))) (e_lit (.int 1))) (e_lit (.int 4)))) l_nil)))) (ss_cons (s_asg .e (e_call f15 (l_cons (e_lit (.int 3)) (l_cons (e_lit (.int 3)) (l_cons (e_lit (.bool false)) (l_cons (e_lit (.bool false)) l_nil)))))) (ss_cons (s_asg (.i (.o (.i .e))) (e_call f30 (l_cons (e_loc .e) (l_cons (e_loc (.o (.o (.o .e)))) (l_cons (e_bin iShl (e_lit (.int 1)) (e_loc (.o (.o (.o (.o .e)))))) l_nil))))) (ss_cons (s_asg (.i (.o (.i (.o (.o (.o .e)))))) (e_call f24 (l_cons (e_lit (.int 9)) (l_cons (e_lit (.int 0)) (l_cons (e_loc (.o (.o (.o (.o .e))))) (l_cons (e_lit (.int 0)) (l_cons (e_lit (.int 0)) l_nil))))))) (ss_cons (s_asgT [(.o (.o (.o (.o (.o (.o .e)))))), (.o (.i (.i .e)))] (e_tup (l_cons (e_slc (e_loc (.i (.o (.i .e)))) (e_so (e_loc (.i (.o (.i (.o (.o (.o .e)))))))) (e_so (e_bin iAdd (e_loc (.i (.o (.i (.o (.o (.o .e))))))) (e_lit (.int 81))))) (l_cons (e_slc (e_slc (e_loc (.i (.o (.i .e)))) (e_so (e_call f24 (l_cons (e_lit (.int 9)) (l_cons (e_lit (.int 1)) (l_cons (e_loc (.o (.o (.o (.o .e))))) (l_cons (e_lit (.int 0)) (l_cons (e_lit (.int 0)) l_nil))))))) e_no) e_no (e_so (e_lit (.int 81)))) l_nil)))) (ss_cons (s_asg (.i (.o (.i (.o .e)))) (e_comp (.i (.i (.o (.i (.o (.o .e)))))) (e_rng (l_cons (e_lit (.int 81)) l_nil)) (t_cmp cNe (e_sub subL (e_loc (.o (.i (.i .e)))) (e_loc (.i (.i (.o (.i (.o (.o .e)))))))) (e_lit (.int (-2)))) (e_loc (.i (.i (.o (.i (.o (.o .e))))))))) ss_nil)))))) (((bodyOf (fnAt 62)).drop 1).take 6) :=
  (snd_ss_cons (snd_asgT_swap O n_7 n_15 (by decide +kernel) (by decide +kernel) (by intro e; cases e) (by rfl) (fun env hf ha hb => stores_two (by decide +kernel) (by decide +kernel) hf ha hb) (snd_tup (snd_l_cons (by rfl) (snd_sub sub_T (snd_tup (snd_l_cons (by rfl) (snd_glo O g_4 (by decide +kernel)) (snd_l_cons (by rfl) (snd_glo O g_3 (by decide +kernel)) (snd_l_cons (by rfl) (snd_glo O g_2 (by decide +kernel)) (snd_l_cons (by rfl) (snd_glo O g_5 (by decide +kernel)) snd_l_nil))))) (snd_bin2 (op_modS hsm) (snd_sub sub_P (snd_loc O n_48 (by decide +kernel)) snd_lit_int (by rfl)) snd_lit_int) (by rfl)) (snd_l_cons (by rfl) (snd_sub sub_T (snd_tup (snd_l_cons (by rfl) snd_lit_int (snd_l_cons (by rfl) snd_lit_int (snd_l_cons (by rfl) snd_lit_int (snd_l_cons (by rfl) snd_lit_int snd_l_nil))))) (snd_bin2 (op_modS hsm) (snd_sub sub_P (snd_loc O n_48 (by decide +kernel)) snd_lit_int (by rfl)) snd_lit_int) (by rfl)) snd_l_nil)))) (snd_ss_cons (snd_asg O n_0 (by decide +kernel) (by rfl) (snd_callee O (h_make_geometry.up (by decide +kernel)) (by decide +kernel) (by rfl) (by decide +kernel) (snd_l_cons (by rfl) snd_lit_int (snd_l_cons (by rfl) snd_lit_int (snd_l_cons (by rfl) snd_lit_bool (snd_l_cons (by rfl) snd_lit_bool snd_l_nil)))))) (snd_ss_cons (snd_asg O n_12 (by decide +kernel) (by rfl) (snd_callee O (h_build_zone.up (by decide +kernel)) (by decide +kernel) (by rfl) (by decide +kernel) (snd_l_cons (by rfl) (snd_loc O n_0 (by decide +kernel)) (snd_l_cons (by rfl) (snd_loc O n_7 (by decide +kernel)) (snd_l_cons (by rfl) (snd_bin op_shl snd_lit_int (snd_loc O n_15 (by decide +kernel))) snd_l_nil))))) (snd_ss_cons (snd_asg O n_68 (by decide +kernel) (by rfl) (snd_callee O (h_index_of.up (by decide +kernel)) (by decide +kernel) (by rfl) (by decide +kernel) (snd_l_cons (by rfl) snd_lit_int (snd_l_cons (by rfl) (snd_glo O g_13 (by decide +kernel)) (snd_l_cons (by rfl) (snd_loc O n_15 (by decide +kernel)) (snd_l_cons (by rfl) snd_lit_int (snd_l_cons (by rfl) snd_lit_int snd_l_nil))))))) (snd_ss_cons (snd_asgT O (.cons n_63 (by decide +kernel) (.cons n_13 (by decide +kernel) .nil)) (by rfl) (fun env S hf => stores_cell (by decide +kernel) hf (S _ _ (show _ = some NameKind.cell from (by decide +kernel)))) (snd_tup (snd_l_cons (by rfl) (snd_slc (snd_loc O n_12 (by decide +kernel)) (snd_p_so (snd_loc O n_68 (by decide +kernel))) (snd_p_so (snd_bin op_add (snd_loc O n_68 (by decide +kernel)) snd_lit_int))) (snd_l_cons (by rfl) (snd_slc (snd_slc (snd_loc O n_12 (by decide +kernel)) (snd_p_so (snd_callee O (h_index_of.up (by decide +kernel)) (by decide +kernel) (by rfl) (by decide +kernel) (snd_l_cons (by rfl) snd_lit_int (snd_l_cons (by rfl) (snd_glo O g_14 (by decide +kernel)) (snd_l_cons (by rfl) (snd_loc O n_15 (by decide +kernel)) (snd_l_cons (by rfl) snd_lit_int (snd_l_cons (by rfl) snd_lit_int snd_l_nil))))))) snd_p_no) snd_p_no (snd_p_so snd_lit_int)) snd_l_nil)))) (snd_ss_cons (snd_asgC_local O n_20 (by decide +kernel) n_74 (by decide +kernel) (by decide +kernel) hdot (snd_i_one (snd_t_cmp cmp_ne (snd_sub sub_L (snd_loc O n_13 (by decide +kernel)) (snd_loc O n_74 (by decide +kernel)) (by rfl)) (snd_glo O g_10 (by decide +kernel)) (by decide +kernel))) (snd_loc O n_74 (by decide +kernel)) (snd_rng O (by rfl) (by decide +kernel) (snd_l_cons (by rfl) snd_lit_int snd_l_nil)) (by rfl)) snd_ss_nil))))))
theorem b_lawB {X : CA} (O : CxOk (theC X)) {sm : Nat → Int → Option Int} (hsm : ∀ k m z, sm k m = some z → m ≠ 0 ∧ (X.σ k).fmod m = z) (h__law_board : Callee X 4 f31 (Str.ofString "_law_board")) (h_build_zone : Callee X 9 f30 (Str.ofString "build_zone")) (h_index_of : Callee X 1 f24 (Str.ofString "index_of")) (h_is_insufficient : Callee X 3 f7 (Str.ofString "is_insufficient")) (h_make_geometry : Callee X 4 f15 (Str.ofString "make_geometry")) : SndSS (theC X) 9 (scOf (fnAt 62)) (ss_cons (s_asg (.o (.i (.o (.o .e)))) (e_sub subL (e_loc (.i (.o (.i (.o .e))))) (e_bin2 (modS sm) (e_sub subP (e_loc (.i (.o (.o (.o (.i .e)))))) (e_lit (.int 2))) (e_len (e_loc (.i (.o (.i (.o .e))))))))) (ss_cons (s_asg (.o (.i (.i (.o (.o .e))))) (e_lst (l_cons (e_tup (l_cons (e_lit (.int 0)) (l_cons (e_lit (.int 6)) (l_cons (e_loc (.o (.o (.o (.o .e))))) l_nil)))) (l_cons (e_tup (l_cons (e_lit (.int 0)) (l_cons (e_loc (.o (.o (.o .e)))) (l_cons (e_bin iDiv (e_loc (.o (.i (.o (.o .e))))) (e_lit (.int 9))) l_nil)))) (l_cons (e_tup (l_cons (e_lit (.int 1)) (l_cons (e_lit (.int 6)) (l_cons (e_bin iMod (e_loc (.o (.i (.o (.o .e))))) (e_lit (.int 9))) l_nil)))) l_nil))))) (ss_cons (s_asg (.o (.i (.o (.o (.i (.o .e)))))) (e_comp (.o (.i (.o (.i (.i (.o .e)))))) (e_tup (l_cons (e_lit (.int 4)) (l_cons (e_lit (.int 3)) (l_cons (e_lit (.int 2)) (l_cons (e_lit (.int 5)) l_nil))))) (t_tt true) (e_call f31 (l_cons (e_loc .e) (l_cons (e_lit (.int 0)) (l_cons (e_lst (l_cons (e_sub subL (e_loc (.o (.i (.i (.o (.o .e)))))) (e_lit (.int 0))) (l_cons (e_tup (l_cons (e_lit (.int 0)) (l_cons (e_loc (.o (.i (.o (.i (.i (.o .e))))))) (l_cons (e_bin iDiv (e_loc (.o (.i (.o (.o .e))))) (e_lit (.int 9))) l_nil)))) (l_cons (e_sub subL (e_loc (.o (.i (.i (.o (.o .e)))))) (e_lit (.int 2))) l_nil)))) l_nil)))))) (ss_cons (s_ite (t_cmp dNe (e_comp (.o (.o (.o (.o (.i .e))))) (e_loc (.o (.i (.o (.o (.i (.o .e))))))) (t_tt true) (e_call f7 (l_cons (e_loc (.o (.o (.o (.o (.i .e)))))) l_nil))) (e_lst (l_cons (e_lit (.bool false)) (l_cons (e_lit (.bool true)) (l_cons (e_lit (.bool true)) (l_cons (e_lit (.bool false)) l_nil)))))) (ss_cons (s_ret (e_lit (.bool false))) ss_nil) ss_nil) (ss_cons (s_asg (.o (.o (.o (.o (.i (.o .e)))))) (e_comp (.i (.o (.i (.i (.o (.o .e)))))) (e_bin2 addL (e_loc (.o (.o (.o (.o (.o (.o .e))))))) (e_loc (.o (.i (.i .e))))) (t_cmp cGe (e_loc (.i (.o (.i (.i (.o (.o .e))))))) (e_lit (.int 0))) (e_loc (.i (.o (.i (.i (.o (.o .e))))))))) (ss_cons (s_ite (t_cmp dNe (e_comp (.i (.i .e)) (e_tup (l_cons (e_lit (.int 0)) (l_cons (e_lit (.int 1)) l_nil))) (t_cmp dNe (e_call f7 (l_cons (e_call f31 (l_cons (e_loc .e) (l_cons (e_loc (.i (.i .e))) (l_cons (e_loc (.o (.i (.i (.o (.o .e)))))) l_nil)))) l_nil)) (e_cmp dEq (e_loc (.o (.o (.o (.o (.i (.o .e))))))) (e_lst l_nil))) (e_loc (.i (.i .e)))) (e_lst l_nil)) (ss_cons (s_ret (e_lit (.bool false))) ss_nil) ss_nil) (ss_cons (s_ret (e_bool false (e_cmp dEq (e_loc (.o (.o (.o (.o (.i (.o .e))))))) (e_lst l_nil)) (e_bool true (e_cmp cIn (e_lit (.int 0)) (e_loc (.o (.i (.i .e))))) (e_cmp cIn (e_lit (.int 1)) (e_loc (.o (.o (.o (.o (.o (.o .e))))))))))) ss_nil))))))) ((bodyOf (fnAt 62)).drop 7) :=
  (snd_ss_cons (snd_asg O n_17 (by decide +kernel) (by rfl) (snd_sub sub_L (snd_loc O n_20 (by decide +kernel)) (snd_bin2 (op_modS hsm) (snd_sub sub_P (snd_loc O n_48 (by decide +kernel)) snd_lit_int (by rfl)) (snd_len O (by rfl) (by decide +kernel) (snd_loc O n_20 (by decide +kernel)))) (by rfl))) (snd_ss_cons (snd_asg O n_37 (by decide +kernel) (by rfl) (snd_lst (snd_l_cons (by rfl) (snd_tup (snd_l_cons (by rfl) snd_lit_int (snd_l_cons (by rfl) (snd_glo O g_6 (by decide +kernel)) (snd_l_cons (by rfl) (snd_loc O n_15 (by decide +kernel)) snd_l_nil)))) (snd_l_cons (by rfl) (snd_tup (snd_l_cons (by rfl) snd_lit_int (snd_l_cons (by rfl) (snd_loc O n_7 (by decide +kernel)) (snd_l_cons (by rfl) (snd_bin op_div (snd_loc O n_17 (by decide +kernel)) snd_lit_int) snd_l_nil)))) (snd_l_cons (by rfl) (snd_tup (snd_l_cons (by rfl) snd_lit_int (snd_l_cons (by rfl) (snd_glo O g_6 (by decide +kernel)) (snd_l_cons (by rfl) (snd_bin op_mod (snd_loc O n_17 (by decide +kernel)) snd_lit_int) snd_l_nil)))) snd_l_nil))))) (snd_ss_cons (snd_asgC_local O n_81 (by decide +kernel) n_89 (by decide +kernel) (by decide +kernel) hdot snd_i_nil (snd_callee O (h__law_board.up (by decide +kernel)) (by decide +kernel) (by rfl) (by decide +kernel) (snd_l_cons (by rfl) (snd_loc O n_0 (by decide +kernel)) (snd_l_cons (by rfl) snd_lit_int (snd_l_cons (by rfl) (snd_lst (snd_l_cons (by rfl) (snd_sub sub_L (snd_loc O n_37 (by decide +kernel)) snd_lit_int (by rfl)) (snd_l_cons (by rfl) (snd_tup (snd_l_cons (by rfl) snd_lit_int (snd_l_cons (by rfl) (snd_loc O n_89 (by decide +kernel)) (snd_l_cons (by rfl) (snd_bin op_div (snd_loc O n_17 (by decide +kernel)) snd_lit_int) snd_l_nil)))) (snd_l_cons (by rfl) (snd_sub sub_L (snd_loc O n_37 (by decide +kernel)) snd_lit_int (by rfl)) snd_l_nil)))) snd_l_nil)))) (snd_tup (snd_l_cons (by rfl) (snd_glo O g_4 (by decide +kernel)) (snd_l_cons (by rfl) (snd_glo O g_3 (by decide +kernel)) (snd_l_cons (by rfl) (snd_glo O g_2 (by decide +kernel)) (snd_l_cons (by rfl) (snd_glo O g_5 (by decide +kernel)) snd_l_nil))))) (by rfl)) (snd_ss_cons (snd_ite (snd_t_cmp cmp_dne (snd_comp O n_47 (by decide +kernel) hdot snd_i_nil (snd_callee O (h_is_insufficient.up (by decide +kernel)) (by decide +kernel) (by rfl) (by decide +kernel) (snd_l_cons (by rfl) (snd_loc O n_47 (by decide +kernel)) snd_l_nil)) (snd_loc O n_81 (by decide +kernel)) (by rfl)) (snd_lst (snd_l_cons (by rfl) snd_lit_bool (snd_l_cons (by rfl) snd_lit_bool (snd_l_cons (by rfl) snd_lit_bool (snd_l_cons (by rfl) snd_lit_bool snd_l_nil))))) (by decide +kernel)) (snd_ss_cons (snd_ret snd_lit_bool) snd_ss_nil) snd_ss_nil) (snd_ss_cons (snd_asgC_cell O n_79 (by decide +kernel) (snd_comp O n_76 (by decide +kernel) hdot (snd_i_one (snd_t_cmp cmp_ge (snd_loc O n_76 (by decide +kernel)) snd_lit_int (by decide +kernel))) (snd_loc O n_76 (by decide +kernel)) (snd_bin2 op_addL (snd_loc O n_63 (by decide +kernel)) (snd_loc O n_13 (by decide +kernel))) (by rfl))) (snd_ss_cons (snd_ite (snd_t_cmp cmp_dne (snd_comp O n_6 (by decide +kernel) hdot (snd_i_one (snd_t_cmp cmp_dne (snd_callee O (h_is_insufficient.up (by decide +kernel)) (by decide +kernel) (by rfl) (by decide +kernel) (snd_l_cons (by rfl) (snd_callee O (h__law_board.up (by decide +kernel)) (by decide +kernel) (by rfl) (by decide +kernel) (snd_l_cons (by rfl) (snd_loc O n_0 (by decide +kernel)) (snd_l_cons (by rfl) (snd_loc O n_6 (by decide +kernel)) (snd_l_cons (by rfl) (snd_loc O n_37 (by decide +kernel)) snd_l_nil)))) snd_l_nil)) (snd_cmp cmp_deq (snd_loc O n_79 (by decide +kernel)) (snd_lst snd_l_nil) (by decide +kernel)) (by decide +kernel))) (snd_loc O n_6 (by decide +kernel)) (snd_tup (snd_l_cons (by rfl) snd_lit_int (snd_l_cons (by rfl) snd_lit_int snd_l_nil))) (by rfl)) (snd_lst snd_l_nil) (by decide +kernel)) (snd_ss_cons (snd_ret snd_lit_bool) snd_ss_nil) snd_ss_nil) (snd_ss_cons (snd_ret (snd_bool (w := false) (snd_b_cons (snd_cmp cmp_deq (snd_loc O n_79 (by decide +kernel)) (snd_lst snd_l_nil) (by decide +kernel)) (snd_b_one (snd_bool (w := true) (snd_b_cons (snd_cmp cmp_in snd_lit_int (snd_loc O n_13 (by decide +kernel)) (by decide +kernel)) (snd_b_one (snd_cmp cmp_in snd_lit_int (snd_loc O n_63 (by decide +kernel)) (by decide +kernel))))))))) snd_ss_nil)))))))
end Mine

namespace Mine
open PySem PySem.SeqAt PySem.W PySem.Calls PyProof.Rows

/-! what the heap's part says of a function -/
def fdFacts (K : Frag) (fa : Addr) : Option (FuncBody × Scope × Addr × Addr × List (Str × Addr) × List Str × Bool × Bool) := match K.lookup fa with
  | some ⟨_, _, .func fd, _⟩ => some (fd.body, fd.scope, fd.globals, fd.builtins, fd.closure, parNames fd, okFd fd, codeIn K fd.code fd.qualname)
  | _ => Option.none
def facts (st : Option Stmt) : Option (FuncBody × Scope × Addr × Addr × List (Str × Addr) × List Str × Bool × Bool) := some (.stmts (bodyOf st), scOf st, mainGlobals, builtinsNs, [], parOf st, true, true)
structure FdOk (K : Frag) (fa : Addr) (st : Option Stmt) (fd : FuncData) : Prop where
  look : ∃ oc od osl, K.lookup fa = some ⟨oc, od, .func fd, osl⟩
  body : fd.body = .stmts (bodyOf st)
  scope : fd.scope = scOf st
  glob : fd.globals = mainGlobals
  bi : fd.builtins = builtinsNs
  clo : fd.closure = []
  par : parNames fd = parOf st
  ok : okFd fd = true
  code : codeIn K fd.code fd.qualname = true
theorem FdOk.of {K : Frag} {fa : Addr} {st : Option Stmt} (h : fdFacts K fa = facts st) : ∃ fd, FdOk K fa st fd := by
  unfold fdFacts facts at h
  split at h
  · rename_i oc od fd osl q
    injection h with h
    simp only [Prod.mk.injEq] at h
    obtain ⟨h1, h2, h3, h4, h5, h6, h7, h8⟩ := h
    exact ⟨fd, ⟨_, _, _, q⟩, h1, h2, h3, h4, h5, h6, h7, h8⟩
  · cases h

def stOk (st : Option Stmt) : Bool := (scOf st).kind == .function && !(scOf st).isCoroutine && !(scOf st).isGenerator && ((scOf st).names.all fun p => !(p.2 == .cell) && !(p.2 == .free)) && ((parOf st).all fun x => (scOf st).names.lookup x == some .local)

section
variable {X : CA} {r : Nat}
theorem fnAt_of {fa : Addr} {st : Option Stmt} (h : fdFacts X.K fa = facts st) (hs : stOk st = true) : ∃ fd, FnAt X.K fa fd (bodyOf st) ∧ fd.scope = scOf st ∧ parNames fd = parOf st := by
  obtain ⟨fd, D⟩ := FdOk.of h
  unfold stOk at hs
  simp only [Bool.and_eq_true, Bool.not_eq_true', beq_iff_eq] at hs
  obtain ⟨⟨⟨⟨h1, h2⟩, h3⟩, h4⟩, h5⟩ := hs
  refine ⟨fd, ⟨D.look, D.code, D.body, D.glob, D.bi, D.clo, by rw [D.scope]; exact h1, by rw [D.scope]; exact h2, by rw [D.scope]; exact h3, fun x hx => ?_, D.ok, fun x hx => ?_⟩, D.scope, D.par⟩
  · rw [D.scope] at hx
    have := List.all_eq_true.mp h4 x hx
    simpa using this
  · rw [D.par] at hx
    rw [D.scope]
    have := List.all_eq_true.mp h5 x hx
    simpa using this
theorem fn_of (O : CxOk (theC X)) {fa : Addr} {f : Fn} {st : Option Stmt} (h : fdFacts X.K fa = facts st) (hs : stOk st = true) (hp : All2 nmR f.ps (parOf st)) (hb : SndSS (theC X) r (scOf st) f.body (bodyOf st)) : FnSnd (theC X) (r + 1) f fa := by
  obtain ⟨fd, F, e1, e2⟩ := fnAt_of h hs
  exact fn_snd O F (by rw [e2]; exact hp) (by rw [e1]; exact hb)
theorem callee_of (O : CxOk (theC X)) {fa : Addr} {f : Fn} {g : Str} {st : Option Stmt} (h : fdFacts X.K fa = facts st) (hs : stOk st = true) (hp : All2 nmR f.ps (parOf st)) (hm : X.mg g = some (.ref fa)) (hk : keepIn X.K (.ref fa) = true)
    (hb : SndSS (theC X) r (scOf st) f.body (bodyOf st)) : Callee X (r + 1) f g := ⟨fa, fn_of O h hs hp hb, hk, hm⟩
theorem maker_of (O : CxOk (theC X)) {k : Nat} {fi : Addr} {f : Fn} {g : Str} {st : Option Stmt} (h3 : k < 3) (h : fdFacts X.K fi = facts st) (hs : stOk st = true) (hp : All2 nmR f.ps (parOf st)) (hm : X.mg g = some (.ref (X.ca k))) (hk : keepIn X.K (.ref (X.ca k)) = true)
    (hi : findIn X.K (.ref (X.ca k)) "__init__" = some (some (.ref fi))) (ht : typeIn X.K (.ref fi) = some (.type "function")) (hb : SndSS (theC X) r (scOf st) f.body (bodyOf st)) : Maker X (r + 1) k f g := ⟨h3, fi, fn_of O h hs hp hb, hk, hm, hi, ht⟩
end

/-! the tables' facts -/
theorem pneq_iff : ∀ {p q : Pn}, pneq p q = true → p = q
  | .e, .e, _ => rfl
  | .o p, .o q, h => by rw [pneq_iff (p := p) (q := q) h]
  | .i p, .i q, h => by rw [pneq_iff (p := p) (q := q) h]
  | .e, .o _, h => by cases h
  | .e, .i _, h => by cases h
  | .o _, .e, h => by cases h
  | .o _, .i _, h => by cases h
  | .i _, .e, h => by cases h
  | .i _, .o _, h => by cases h
theorem pneq_refl : ∀ p : Pn, pneq p p = true
  | .e => rfl
  | .o p => pneq_refl p
  | .i p => pneq_refl p
theorem nm_pairs : (nmT.all fun a => nmT.all fun b => (a.2 == b.2) == pneq a.1 b.1) = true := by decide +kernel
theorem nm_pair {p q : Pn} {x y : Str} (h1 : nmR p x) (h2 : nmR q y) : (x == y) = pneq p q := by
  obtain ⟨k, h1⟩ := h1
  obtain ⟨l, h2⟩ := h2
  have := List.all_eq_true.mp (List.all_eq_true.mp nm_pairs _ (List.mem_of_getElem? h1)) _ (List.mem_of_getElem? h2)
  simpa using this
theorem nm_inj : ∀ p q x, nmR p x → nmR q x → p = q := fun p q x h1 h2 => pneq_iff ((nm_pair h1 h2).symm.trans (by simp))
theorem nm_fun : ∀ p x y, nmR p x → nmR p y → x = y := fun p x y h1 h2 => by
  have := (nm_pair h1 h2).trans (pneq_refl p)
  simpa using this
theorem nm_odd : (nmT.all fun a => !(a.2 == Str.ofString "__debug__") && !(a.2 == Str.ofString "__classdict__")) = true := by decide +kernel
theorem nm_dbg : ∀ p x, nmR p x → (x == Str.ofString "__debug__") = false ∧ (x == Str.ofString "__classdict__") = false := fun p x ⟨k, h⟩ => by
  have := List.all_eq_true.mp nm_odd _ (List.mem_of_getElem? h)
  simpa using this

def isNN : Option (Option Value) → Bool
  | some Option.none => true
  | _ => false
theorem isNN_eq {x : Option (Option Value)} (h : isNN x = true) : x = some Option.none := by
  match x, h with
  | some Option.none, _ => rfl
def intsEq : List Value → List Int → Bool
  | [], [] => true
  | .int i _ :: r, j :: l => (i == j) && intsEq r l
  | _, _ => false
theorem intsEq_all : ∀ {ys : List Value} {l : List Int}, intsEq ys l = true → All2 (fun i v => ∃ t, v = Value.int i t) l ys
  | [], [], _ => .nil
  | .int i t :: r, j :: l, h => by
    unfold intsEq at h
    rw [Bool.and_eq_true, beq_iff_eq] at h
    exact .cons ⟨t, by rw [h.1]⟩ (intsEq_all h.2)
  | .int _ _ :: _, [], h => by cases h
  | [], _ :: _, h => by cases h
  | .none :: _, _, h => by cases h
def glOk (K : Frag) (x : Str) (v : V) : Bool := !(x == Str.ofString "__debug__") && (match v with
  | .int i => (match nsIn K mainGlobals x with | some (some (.int j _)) => i == j | _ => false)
  | .ctup l => (match nsIn K mainGlobals x with
    | some (some (.ref a)) => (match K.lookup a with | some ⟨.type T, _, .seq its _, _⟩ => T == "tuple" && intsEq its.toList l | _ => false)
    | _ => false)
  | _ => false)
theorem glo_of {X : CA} (KX : X.K.In X.h₀) (G : X.h₀.Ns mainGlobals X.mg) (h : (glT.all fun e => glOk X.K e.1 e.2) = true) : ∀ x v, glR x v → (x == Str.ofString "__debug__") = false ∧ ∃ y, X.mg x = some y ∧ ∀ φ, VR (theC X) φ v y := fun x v ⟨k, hk⟩ => by
  have := List.all_eq_true.mp h _ (List.mem_of_getElem? hk)
  unfold glOk at this
  rw [Bool.and_eq_true] at this
  obtain ⟨h1, h2⟩ := this
  refine ⟨by simpa using h1, ?_⟩
  cases v with
  | int i =>
    dsimp only at h2
    split at h2
    · rename_i j t q
      exact ⟨_, mg_of KX G q, fun φ => by rw [← beq_iff_eq.mp h2]; exact .int i t⟩
    · cases h2
  | ctup l =>
    dsimp only at h2
    split at h2
    · rename_i a q
      split at h2
      · rename_i T od its n sl q2
        rw [Bool.and_eq_true, beq_iff_eq] at h2
        exact ⟨_, mg_of KX G q, fun φ => .ctup ⟨_, KX _ _ q2, by rw [h2.1], n, rfl⟩ (intsEq_all h2.2)⟩
      · cases h2
    · cases h2
  | _ => cases h2
theorem mg_none {K : Frag} {h : Heap} {mg : Str → Option Value} {n : Str} (X : K.In h) (G : h.Ns mainGlobals mg) (e : nsIn K mainGlobals n = some Option.none) : mg n = Option.none := by
  obtain ⟨o, es, ep, ho, hd, _, hf⟩ := G
  unfold nsIn at e
  split at e
  · rename_i c d es' n' sl q
    have := X _ _ q
    rw [ho] at this
    cases this
    cases hd
    split at e
    · cases e
    · rename_i q2
      rw [← hf n]
      unfold nsFind findBy
      rw [← Array.find?_toList, q2]
      rfl
  · cases e
end Mine

namespace Mine
open PySem PySem.SeqAt PySem.W PySem.Calls PyProof.Rows
def fdT : List (Addr × Option Stmt) := [(21, fnAt 1), (28, fnAt 2), (35, fnAt 12), (42, fnAt 13), (49, fnAt 14), (56, fnAt 16), (63, fnAt 17), (70, fnAt 18), (132, fnAt 26), (139, fnAt 27), (146, fnAt 28), (153, fnAt 29), (160, fnAt 30), (167, fnAt 31), (174, fnAt 32), (118, inAt 25), (181, fnAt 33), (209, fnAt 36), (216, fnAt 38), (223, fnAt 39), (230, fnAt 40), (237, fnAt 41), (244, fnAt 42), (251, fnAt 43), (256, fnAt 50), (263, fnAt 51), (270, fnAt 52), (277, fnAt 53), (284, fnAt 54), (291, fnAt 55), (298, fnAt 56), (305, fnAt 57), (195, inAt 35), (319, inAt 59), (333, fnAt 61), (338, fnAt 62)]
def gaT : List (Str × Addr) := [(Str.ofString "more_than_one", 21), (Str.ofString "squares_of", 28), (Str.ofString "make_piece", 35), (Str.ofString "side_of", 42), (Str.ofString "kind_of", 49), (Str.ofString "square_colour", 56), (Str.ofString "bishops_on_one_colour", 63), (Str.ofString "is_insufficient", 70), (Str.ofString "is_growing", 132), (Str.ofString "add_masks", 139), (Str.ofString "inner_squares", 146), (Str.ofString "add_rays", 153), (Str.ofString "add_pawns", 160), (Str.ofString "add_knights", 167), (Str.ofString "add_castles", 174), (Str.ofString "Geometry", 121), (Str.ofString "make_geometry", 181), (Str.ofString "put_piece", 209), (Str.ofString "ray_attacks", 216), (Str.ofString "rook_attacks", 223), (Str.ofString "bishop_attacks", 230), (Str.ofString "queen_attacks", 237), (Str.ofString "slider_attacks", 244), (Str.ofString "piece_attacks", 251), (Str.ofString "solve", 256), (Str.ofString "index_of", 263), (Str.ofString "parts_of", 270), (Str.ofString "mark_places", 277), (Str.ofString "weak_moves", 284), (Str.ofString "strong_moves", 291), (Str.ofString "moves_at", 298), (Str.ofString "build_zone", 305), (Str.ofString "Position", 198), (Str.ofString "Zobrist", 322), (Str.ofString "_law_board", 333), (Str.ofString "law", 338)]
def clT : List (Addr × Addr) := [(121, 118), (198, 195), (322, 319)]
def isRefB : Option (Option Value) → Addr → Bool
  | some (some (.ref b)), a => Nat.beq b a
  | _, _ => false
theorem isRefB_eq {x : Option (Option Value)} {a : Addr} (h : isRefB x a = true) : x = some (some (.ref a)) := by
  match x, h with
  | some (some (.ref b)), h => rw [Nat.eq_of_beq_eq_true (show Nat.beq b a = true from h)]
def isBI : Option (Option Value) → String → Bool
  | some (some (.builtin s)), t => s == t
  | _, _ => false
theorem isBI_eq {x : Option (Option Value)} {t : String} (h : isBI x t = true) : x = some (some (.builtin t)) := by
  match x, h with
  | some (some (.builtin s)), h => rw [beq_iff_eq.mp (show (s == t) = true from h)]
def isTy : Option Value → String → Bool
  | some (.type s), t => s == t
  | _, _ => false
theorem isTy_eq {x : Option Value} {t : String} (h : isTy x t = true) : x = some (.type t) := by
  match x, h with
  | some (.type s), h => rw [beq_iff_eq.mp (show (s == t) = true from h)]
def clOk (K : Frag) (p : Addr × Addr) : Bool := hasDictIn K p.1 && isBI (findIn K (.ref p.1) (Str.ofString "__getattribute__")) "object.__getattribute__" && isBI (findIn K (.ref p.1) (Str.ofString "__setattr__")) "object.__setattr__" &&
  plainOver K p.1 && makesIn K p.1 && (nmT.all fun e => isNN (findIn K (.ref p.1) e.2)) && isRefB (findIn K (.ref p.1) (Str.ofString "__init__")) p.2 && isTy (typeIn K (.ref p.2)) "function"
def boolFacts (K : Frag) : Bool := (gaT.all fun p => isRefB (nsIn K mainGlobals p.1) p.2 && keepIn K (.ref p.2)) && clT.all (clOk K) && (glT.all fun e => glOk K e.1 e.2) && isNN (nsIn K mainGlobals (Str.ofString "range")) && isNN (nsIn K mainGlobals (Str.ofString "len"))
structure FactsP (K : Frag) : Prop where
  fds : (fdT.map fun p => fdFacts K p.1) = fdT.map fun p => facts p.2
  oks : boolFacts K = true
def fragOn (h : Heap) (l : List Addr) : Frag := l.filterMap fun a => (h.get? a).map fun o => (a, o)
theorem fragOn_in (h : Heap) : ∀ l : List Addr, (fragOn h l).In h
  | [] => fun a o e => by cases e
  | b :: r => fun a o e => by
    have ih := fragOn_in h r a o
    unfold fragOn at e
    rw [List.filterMap_cons] at e
    cases q : h.get? b with
    | none => rw [q] at e; exact ih e
    | some x =>
      rw [q] at e
      dsimp only [Option.map_some] at e
      rw [List.lookup_cons] at e
      cases z : a == b with
      | true => rw [z] at e; cases e; rw [beq_iff_eq.mp z]; exact q
      | false => rw [z] at e; exact ih e
def asM : List Addr := [3, 121, 120, 198, 197, 322, 321, 20, 21, 27, 28, 34, 35, 41, 42, 48, 49, 55, 56, 62, 63, 69, 70, 103, 104, 117, 118, 131, 132, 138, 139, 145, 146, 152, 153, 159, 160, 166, 167, 173, 174, 180, 181, 194, 195, 208, 209, 215, 216, 222, 223, 229, 230, 236, 237, 243, 244, 250, 251, 255, 256, 262, 263, 269, 270, 276, 277, 283, 284, 290, 291, 297, 298, 304, 305, 318, 319, 332, 333, 337, 338]
def fragAt (h : Heap) : Frag := fragOn h asM
def hookM : Hook where
  α := List (Option (FuncBody × Scope × Addr × Addr × List (Str × Addr) × List Str × Bool × Bool)) × Bool
  obs := fun s => (fdT.map fun p => fdFacts (fragAt s.heap) p.1, boolFacts (fragAt s.heap))
  val := fun _ => (fdT.map fun p => facts p.2, true)
  says := fun _ h => ∃ K : Frag, K.In h ∧ FactsP K
  of := fun w s e => ⟨fragAt s.heap, fragOn_in _ _, (Prod.mk.inj e).1, (Prod.mk.inj e).2⟩
  keeps := fun w h h' ⟨K, a, b⟩ k => ⟨K, a.keeps k, b⟩
theorem map_at {α β : Type} {f g : α → β} : ∀ {l : List α}, l.map f = l.map g → ∀ (i : Nat) {x : α}, l[i]? = some x → f x = g x
  | [], _, i, x, h => by simp at h
  | y :: r, e, 0, x, h => by
    rw [List.map_cons, List.map_cons] at e
    simp at h; subst h
    exact (List.cons.inj e).1
  | y :: r, e, i + 1, x, h => map_at (List.cons.inj e).2 i (by simpa using h)
theorem all_at {α : Type} {p : α → Bool} {l : List α} (e : l.all p = true) (i : Nat) {x : α} (h : l[i]? = some x) : p x = true := List.all_eq_true.mp e x (List.mem_of_getElem? h)
section
variable {K : Frag} (F : FactsP K)
include F
theorem f_oks : ((((gaT.all fun p => isRefB (nsIn K mainGlobals p.1) p.2 && keepIn K (.ref p.2)) = true ∧ clT.all (clOk K) = true) ∧ (glT.all fun e => glOk K e.1 e.2) = true) ∧ isNN (nsIn K mainGlobals (Str.ofString "range")) = true) ∧ isNN (nsIn K mainGlobals (Str.ofString "len")) = true := by
  have h := F.oks
  unfold boolFacts at h
  simpa only [Bool.and_eq_true] using h
theorem f_nm (i : Nat) {x : Str} {a : Addr} (h : gaT[i]? = some (x, a)) : nsIn K mainGlobals x = some (some (.ref a)) := isRefB_eq (Bool.and_eq_true_iff.mp (all_at (f_oks F).1.1.1.1 i h)).1
theorem f_keep (i : Nat) {x : Str} {a : Addr} (h : gaT[i]? = some (x, a)) : keepIn K (.ref a) = true := (Bool.and_eq_true_iff.mp (all_at (f_oks F).1.1.1.1 i h)).2
theorem f_fd (i : Nat) {a : Addr} {st : Option Stmt} (h : fdT[i]? = some (a, st)) : fdFacts K a = facts st := map_at F.fds i h
theorem f_cl (i : Nat) {a b : Addr} (h : clT[i]? = some (a, b)) : hasDictIn K a = true ∧ findIn K (.ref a) (Str.ofString "__getattribute__") = some (some (.builtin "object.__getattribute__")) ∧ findIn K (.ref a) (Str.ofString "__setattr__") = some (some (.builtin "object.__setattr__")) ∧
    plainOver K a = true ∧ makesIn K a = true ∧ (nmT.all fun e => isNN (findIn K (.ref a) e.2)) = true ∧ findIn K (.ref a) "__init__" = some (some (.ref b)) ∧ typeIn K (.ref b) = some (.type "function") := by
  have e := all_at (f_oks F).1.1.1.2 i h
  unfold clOk at e
  simp only [Bool.and_eq_true] at e
  obtain ⟨⟨⟨⟨⟨⟨⟨e1, e2⟩, e3⟩, e4⟩, e5⟩, e6⟩, e7⟩, e8⟩ := e
  exact ⟨e1, isBI_eq e2, isBI_eq e3, e4, e5, e6, isRefB_eq e7, isTy_eq e8⟩
end

theorem ks_more_than_one : stOk (fnAt 1) = true := by decide +kernel
theorem ks_squares_of : stOk (fnAt 2) = true := by decide +kernel
theorem ks_make_piece : stOk (fnAt 12) = true := by decide +kernel
theorem ks_side_of : stOk (fnAt 13) = true := by decide +kernel
theorem ks_kind_of : stOk (fnAt 14) = true := by decide +kernel
theorem ks_square_colour : stOk (fnAt 16) = true := by decide +kernel
theorem ks_bishops_on_one_colour : stOk (fnAt 17) = true := by decide +kernel
theorem ks_is_insufficient : stOk (fnAt 18) = true := by decide +kernel
theorem ks_is_growing : stOk (fnAt 26) = true := by decide +kernel
theorem ks_add_masks : stOk (fnAt 27) = true := by decide +kernel
theorem ks_inner_squares : stOk (fnAt 28) = true := by decide +kernel
theorem ks_add_rays : stOk (fnAt 29) = true := by decide +kernel
theorem ks_add_pawns : stOk (fnAt 30) = true := by decide +kernel
theorem ks_add_knights : stOk (fnAt 31) = true := by decide +kernel
theorem ks_add_castles : stOk (fnAt 32) = true := by decide +kernel
theorem ks_Geometry : stOk (inAt 25) = true := by decide +kernel
theorem ks_make_geometry : stOk (fnAt 33) = true := by decide +kernel
theorem ks_put_piece : stOk (fnAt 36) = true := by decide +kernel
theorem ks_ray_attacks : stOk (fnAt 38) = true := by decide +kernel
theorem ks_rook_attacks : stOk (fnAt 39) = true := by decide +kernel
theorem ks_bishop_attacks : stOk (fnAt 40) = true := by decide +kernel
theorem ks_queen_attacks : stOk (fnAt 41) = true := by decide +kernel
theorem ks_slider_attacks : stOk (fnAt 42) = true := by decide +kernel
theorem ks_piece_attacks : stOk (fnAt 43) = true := by decide +kernel
theorem ks_solve : stOk (fnAt 50) = true := by decide +kernel
theorem ks_index_of : stOk (fnAt 51) = true := by decide +kernel
theorem ks_parts_of : stOk (fnAt 52) = true := by decide +kernel
theorem ks_mark_places : stOk (fnAt 53) = true := by decide +kernel
theorem ks_weak_moves : stOk (fnAt 54) = true := by decide +kernel
theorem ks_strong_moves : stOk (fnAt 55) = true := by decide +kernel
theorem ks_moves_at : stOk (fnAt 56) = true := by decide +kernel
theorem ks_build_zone : stOk (fnAt 57) = true := by decide +kernel
theorem ks_Position : stOk (inAt 35) = true := by decide +kernel
theorem ks_Zobrist : stOk (inAt 59) = true := by decide +kernel
theorem ks__law_board : stOk (fnAt 61) = true := by decide +kernel
def caF : Nat → Addr
  | 0 => 121
  | 1 => 198
  | _ => 322
def XX (w : World) (K : Frag) (h₀ : Heap) (mg : Str → Option Value) (σ : Nat → Int) : CA := ⟨Challenge.rw_sm0018_01.row.prog, w, K, h₀, mg, σ, caF⟩
section
variable {w : World} {K : Frag} {h₀ : Heap} {mg mb : Str → Option Value} {σ : Nat → Int}
theorem xx_ok (F : FactsP K) (KX : K.In h₀) (G : h₀.Ns mainGlobals mg) (B : h₀.Ns builtinsNs mb) (b1 : mb (Str.ofString "range") = some (.type "range")) (b2 : mb (Str.ofString "len") = some (.builtin "len")) (L : h₀.NoLimit) : CxOk (theC (XX w K h₀ mg σ)) where
  K := KX
  g := G
  bi := ⟨mb, B, b1, b2⟩
  rng := mg_none KX G (isNN_eq (f_oks F).1.2)
  len := mg_none KX G (isNN_eq (f_oks F).2)
  lim := L
  nmInj := nm_inj
  nmFun := nm_fun
  nmDbg := nm_dbg
  glo := glo_of (X := XX w K h₀ mg σ) KX G (f_oks F).1.1.2
  att := fun k p x _ ⟨i, hi⟩ => match k with
    | 0 => isNN_eq (all_at (f_cl F 0 rfl).2.2.2.2.2.1 i hi)
    | 1 => isNN_eq (all_at (f_cl F 1 rfl).2.2.2.2.2.1 i hi)
    | _ + 2 => isNN_eq (all_at (f_cl F 2 rfl).2.2.2.2.2.1 i hi)
  dict := fun k _ => match k with
    | 0 => (f_cl F 0 rfl).1
    | 1 => (f_cl F 1 rfl).1
    | _ + 2 => (f_cl F 2 rfl).1
  ga := fun k _ => match k with
    | 0 => (f_cl F 0 rfl).2.1
    | 1 => (f_cl F 1 rfl).2.1
    | _ + 2 => (f_cl F 2 rfl).2.1
  sa := fun k _ => match k with
    | 0 => (f_cl F 0 rfl).2.2.1
    | 1 => (f_cl F 1 rfl).2.2.1
    | _ + 2 => (f_cl F 2 rfl).2.2.1
  over := fun k _ => match k with
    | 0 => (f_cl F 0 rfl).2.2.2.1
    | 1 => (f_cl F 1 rfl).2.2.2.1
    | _ + 2 => (f_cl F 2 rfl).2.2.2.1
  makes := fun k _ => match k with
    | 0 => (f_cl F 0 rfl).2.2.2.2.1
    | 1 => (f_cl F 1 rfl).2.2.2.2.1
    | _ + 2 => (f_cl F 2 rfl).2.2.2.2.1
theorem c_more_than_one (F : FactsP K) (KX : K.In h₀) (G : h₀.Ns mainGlobals mg) (O : CxOk (theC (XX w K h₀ mg σ))) : Callee (XX w K h₀ mg σ) 1 f0 (Str.ofString "more_than_one") :=
  callee_of O (f_fd F 0 rfl) ks_more_than_one (.cons n_19 .nil) (mg_of KX G (f_nm F 0 rfl)) (f_keep F 0 rfl) (b_f0 O )
theorem c_squares_of (F : FactsP K) (KX : K.In h₀) (G : h₀.Ns mainGlobals mg) (O : CxOk (theC (XX w K h₀ mg σ))) : Callee (XX w K h₀ mg σ) 1 f1 (Str.ofString "squares_of") :=
  callee_of O (f_fd F 1 rfl) ks_squares_of (.cons n_19 .nil) (mg_of KX G (f_nm F 1 rfl)) (f_keep F 1 rfl) (b_f1 O )
theorem c_make_piece (F : FactsP K) (KX : K.In h₀) (G : h₀.Ns mainGlobals mg) (O : CxOk (theC (XX w K h₀ mg σ))) : Callee (XX w K h₀ mg σ) 1 f2 (Str.ofString "make_piece") :=
  callee_of O (f_fd F 2 rfl) ks_make_piece (.cons n_14 (.cons n_7 .nil)) (mg_of KX G (f_nm F 2 rfl)) (f_keep F 2 rfl) (b_f2 O )
theorem c_side_of (F : FactsP K) (KX : K.In h₀) (G : h₀.Ns mainGlobals mg) (O : CxOk (theC (XX w K h₀ mg σ))) : Callee (XX w K h₀ mg σ) 1 f3 (Str.ofString "side_of") :=
  callee_of O (f_fd F 3 rfl) ks_side_of (.cons n_4 .nil) (mg_of KX G (f_nm F 3 rfl)) (f_keep F 3 rfl) (b_f3 O )
theorem c_kind_of (F : FactsP K) (KX : K.In h₀) (G : h₀.Ns mainGlobals mg) (O : CxOk (theC (XX w K h₀ mg σ))) : Callee (XX w K h₀ mg σ) 1 f4 (Str.ofString "kind_of") :=
  callee_of O (f_fd F 4 rfl) ks_kind_of (.cons n_4 .nil) (mg_of KX G (f_nm F 4 rfl)) (f_keep F 4 rfl) (b_f4 O )
theorem c_square_colour (F : FactsP K) (KX : K.In h₀) (G : h₀.Ns mainGlobals mg) (O : CxOk (theC (XX w K h₀ mg σ))) : Callee (XX w K h₀ mg σ) 1 f5 (Str.ofString "square_colour") :=
  callee_of O (f_fd F 5 rfl) ks_square_colour (.cons n_0 (.cons n_1 .nil)) (mg_of KX G (f_nm F 5 rfl)) (f_keep F 5 rfl) (b_f5 O )
theorem c_bishops_on_one_colour (F : FactsP K) (KX : K.In h₀) (G : h₀.Ns mainGlobals mg) (O : CxOk (theC (XX w K h₀ mg σ))) : Callee (XX w K h₀ mg σ) 2 f6 (Str.ofString "bishops_on_one_colour") :=
  callee_of O (f_fd F 6 rfl) ks_bishops_on_one_colour (.cons n_18 .nil) (mg_of KX G (f_nm F 6 rfl)) (f_keep F 6 rfl) (b_f6 O (c_square_colour F KX G O) (c_squares_of F KX G O))
theorem c_is_insufficient (F : FactsP K) (KX : K.In h₀) (G : h₀.Ns mainGlobals mg) (O : CxOk (theC (XX w K h₀ mg σ))) : Callee (XX w K h₀ mg σ) 3 f7 (Str.ofString "is_insufficient") :=
  callee_of O (f_fd F 7 rfl) ks_is_insufficient (.cons n_18 .nil) (mg_of KX G (f_nm F 7 rfl)) (f_keep F 7 rfl) (b_f7 O (c_bishops_on_one_colour F KX G O) (c_more_than_one F KX G O))
theorem c_is_growing (F : FactsP K) (KX : K.In h₀) (G : h₀.Ns mainGlobals mg) (O : CxOk (theC (XX w K h₀ mg σ))) : Callee (XX w K h₀ mg σ) 1 f8 (Str.ofString "is_growing") :=
  callee_of O (f_fd F 8 rfl) ks_is_growing (.cons n_10 .nil) (mg_of KX G (f_nm F 8 rfl)) (f_keep F 8 rfl) (b_f8 O )
theorem c_add_masks (F : FactsP K) (KX : K.In h₀) (G : h₀.Ns mainGlobals mg) (O : CxOk (theC (XX w K h₀ mg σ))) : Callee (XX w K h₀ mg σ) 1 f9 (Str.ofString "add_masks") :=
  callee_of O (f_fd F 9 rfl) ks_add_masks (.cons n_0 .nil) (mg_of KX G (f_nm F 9 rfl)) (f_keep F 9 rfl) (b_f9 O )
theorem c_inner_squares (F : FactsP K) (KX : K.In h₀) (G : h₀.Ns mainGlobals mg) (O : CxOk (theC (XX w K h₀ mg σ))) : Callee (XX w K h₀ mg σ) 1 f10 (Str.ofString "inner_squares") :=
  callee_of O (f_fd F 10 rfl) ks_inner_squares (.cons n_0 (.cons n_10 .nil)) (mg_of KX G (f_nm F 10 rfl)) (f_keep F 10 rfl) (b_f10 O )
theorem c_add_rays (F : FactsP K) (KX : K.In h₀) (G : h₀.Ns mainGlobals mg) (O : CxOk (theC (XX w K h₀ mg σ))) : Callee (XX w K h₀ mg σ) 2 f11 (Str.ofString "add_rays") :=
  callee_of O (f_fd F 11 rfl) ks_add_rays (.cons n_0 .nil) (mg_of KX G (f_nm F 11 rfl)) (f_keep F 11 rfl) (b_f11 O (c_inner_squares F KX G O) (c_is_growing F KX G O))
theorem c_add_pawns (F : FactsP K) (KX : K.In h₀) (G : h₀.Ns mainGlobals mg) (O : CxOk (theC (XX w K h₀ mg σ))) : Callee (XX w K h₀ mg σ) 1 f12 (Str.ofString "add_pawns") :=
  callee_of O (f_fd F 12 rfl) ks_add_pawns (.cons n_0 .nil) (mg_of KX G (f_nm F 12 rfl)) (f_keep F 12 rfl) (b_f12 O )
theorem c_add_knights (F : FactsP K) (KX : K.In h₀) (G : h₀.Ns mainGlobals mg) (O : CxOk (theC (XX w K h₀ mg σ))) : Callee (XX w K h₀ mg σ) 1 f13 (Str.ofString "add_knights") :=
  callee_of O (f_fd F 13 rfl) ks_add_knights (.cons n_0 .nil) (mg_of KX G (f_nm F 13 rfl)) (f_keep F 13 rfl) (b_f13 O )
theorem c_add_castles (F : FactsP K) (KX : K.In h₀) (G : h₀.Ns mainGlobals mg) (O : CxOk (theC (XX w K h₀ mg σ))) : Callee (XX w K h₀ mg σ) 1 f14 (Str.ofString "add_castles") :=
  callee_of O (f_fd F 14 rfl) ks_add_castles (.cons n_0 .nil) (mg_of KX G (f_nm F 14 rfl)) (f_keep F 14 rfl) (b_f14 O )
theorem c_Geometry (F : FactsP K) (KX : K.In h₀) (G : h₀.Ns mainGlobals mg) (O : CxOk (theC (XX w K h₀ mg σ))) : Maker (XX w K h₀ mg σ) 1 0 c0 (Str.ofString "Geometry") :=
  maker_of O (by decide) (f_fd F 15 rfl) ks_Geometry (.cons n_3 (.cons n_5 (.cons n_21 (.cons n_40 (.cons n_34 .nil))))) (mg_of KX G (f_nm F 15 rfl)) (f_keep F 15 rfl) (f_cl F 0 rfl).2.2.2.2.2.2.1 (f_cl F 0 rfl).2.2.2.2.2.2.2 (b_c0 O )
theorem c_make_geometry (F : FactsP K) (KX : K.In h₀) (G : h₀.Ns mainGlobals mg) (O : CxOk (theC (XX w K h₀ mg σ))) : Callee (XX w K h₀ mg σ) 4 f15 (Str.ofString "make_geometry") :=
  callee_of O (f_fd F 16 rfl) ks_make_geometry (.cons n_5 (.cons n_21 (.cons n_40 (.cons n_34 .nil)))) (mg_of KX G (f_nm F 16 rfl)) (f_keep F 16 rfl) (b_f15 O (c_Geometry F KX G O) (c_add_castles F KX G O) (c_add_knights F KX G O) (c_add_masks F KX G O) (c_add_pawns F KX G O) (c_add_rays F KX G O))
theorem c_put_piece (F : FactsP K) (KX : K.In h₀) (G : h₀.Ns mainGlobals mg) (O : CxOk (theC (XX w K h₀ mg σ))) : Callee (XX w K h₀ mg σ) 2 f16 (Str.ofString "put_piece") :=
  callee_of O (f_fd F 17 rfl) ks_put_piece (.cons n_18 (.cons n_4 (.cons n_57 .nil))) (mg_of KX G (f_nm F 17 rfl)) (f_keep F 17 rfl) (b_f16 O (c_kind_of F KX G O) (c_side_of F KX G O))
theorem c_ray_attacks (F : FactsP K) (KX : K.In h₀) (G : h₀.Ns mainGlobals mg) (O : CxOk (theC (XX w K h₀ mg σ))) : Callee (XX w K h₀ mg σ) 2 f17 (Str.ofString "ray_attacks") :=
  callee_of O (f_fd F 18 rfl) ks_ray_attacks (.cons n_0 (.cons n_10 (.cons n_1 (.cons n_16 .nil)))) (mg_of KX G (f_nm F 18 rfl)) (f_keep F 18 rfl) (b_f17 O (c_is_growing F KX G O))
theorem c_rook_attacks (F : FactsP K) (KX : K.In h₀) (G : h₀.Ns mainGlobals mg) (O : CxOk (theC (XX w K h₀ mg σ))) : Callee (XX w K h₀ mg σ) 3 f18 (Str.ofString "rook_attacks") :=
  callee_of O (f_fd F 19 rfl) ks_rook_attacks (.cons n_0 (.cons n_1 (.cons n_16 .nil))) (mg_of KX G (f_nm F 19 rfl)) (f_keep F 19 rfl) (b_f18 O (c_ray_attacks F KX G O))
theorem c_bishop_attacks (F : FactsP K) (KX : K.In h₀) (G : h₀.Ns mainGlobals mg) (O : CxOk (theC (XX w K h₀ mg σ))) : Callee (XX w K h₀ mg σ) 3 f19 (Str.ofString "bishop_attacks") :=
  callee_of O (f_fd F 20 rfl) ks_bishop_attacks (.cons n_0 (.cons n_1 (.cons n_16 .nil))) (mg_of KX G (f_nm F 20 rfl)) (f_keep F 20 rfl) (b_f19 O (c_ray_attacks F KX G O))
theorem c_queen_attacks (F : FactsP K) (KX : K.In h₀) (G : h₀.Ns mainGlobals mg) (O : CxOk (theC (XX w K h₀ mg σ))) : Callee (XX w K h₀ mg σ) 4 f20 (Str.ofString "queen_attacks") :=
  callee_of O (f_fd F 21 rfl) ks_queen_attacks (.cons n_0 (.cons n_1 (.cons n_16 .nil))) (mg_of KX G (f_nm F 21 rfl)) (f_keep F 21 rfl) (b_f20 O (c_bishop_attacks F KX G O) (c_rook_attacks F KX G O))
theorem c_slider_attacks (F : FactsP K) (KX : K.In h₀) (G : h₀.Ns mainGlobals mg) (O : CxOk (theC (XX w K h₀ mg σ))) : Callee (XX w K h₀ mg σ) 5 f21 (Str.ofString "slider_attacks") :=
  callee_of O (f_fd F 22 rfl) ks_slider_attacks (.cons n_0 (.cons n_7 (.cons n_1 (.cons n_16 .nil)))) (mg_of KX G (f_nm F 22 rfl)) (f_keep F 22 rfl) (b_f21 O (c_bishop_attacks F KX G O) (c_queen_attacks F KX G O) (c_rook_attacks F KX G O))
theorem c_piece_attacks (F : FactsP K) (KX : K.In h₀) (G : h₀.Ns mainGlobals mg) (O : CxOk (theC (XX w K h₀ mg σ))) : Callee (XX w K h₀ mg σ) 6 f22 (Str.ofString "piece_attacks") :=
  callee_of O (f_fd F 23 rfl) ks_piece_attacks (.cons n_0 (.cons n_14 (.cons n_7 (.cons n_1 (.cons n_16 .nil))))) (mg_of KX G (f_nm F 23 rfl)) (f_keep F 23 rfl) (b_f22 O (c_slider_attacks F KX G O))
theorem c_solve (F : FactsP K) (KX : K.In h₀) (G : h₀.Ns mainGlobals mg) (O : CxOk (theC (XX w K h₀ mg σ))) : Callee (XX w K h₀ mg σ) 1 f23 (Str.ofString "solve") :=
  callee_of O (f_fd F 24 rfl) ks_solve (.cons n_32 (.cons n_24 (.cons n_42 .nil))) (mg_of KX G (f_nm F 24 rfl)) (f_keep F 24 rfl) (b_f23 O )
theorem c_index_of (F : FactsP K) (KX : K.In h₀) (G : h₀.Ns mainGlobals mg) (O : CxOk (theC (XX w K h₀ mg σ))) : Callee (XX w K h₀ mg σ) 1 f24 (Str.ofString "index_of") :=
  callee_of O (f_fd F 25 rfl) ks_index_of (.cons n_2 (.cons n_14 (.cons n_6 (.cons n_4 (.cons n_11 .nil))))) (mg_of KX G (f_nm F 25 rfl)) (f_keep F 25 rfl) (b_f24 O )
theorem c_parts_of (F : FactsP K) (KX : K.In h₀) (G : h₀.Ns mainGlobals mg) (O : CxOk (theC (XX w K h₀ mg σ))) : Callee (XX w K h₀ mg σ) 1 f25 (Str.ofString "parts_of") :=
  callee_of O (f_fd F 26 rfl) ks_parts_of (.cons n_2 (.cons n_8 .nil)) (mg_of KX G (f_nm F 26 rfl)) (f_keep F 26 rfl) (b_f25 O )
theorem c_mark_places (F : FactsP K) (KX : K.In h₀) (G : h₀.Ns mainGlobals mg) (O : CxOk (theC (XX w K h₀ mg σ))) : Callee (XX w K h₀ mg σ) 7 f26 (Str.ofString "mark_places") :=
  callee_of O (f_fd F 27 rfl) ks_mark_places (.cons n_0 (.cons n_7 (.cons n_61 (.cons n_12 .nil)))) (mg_of KX G (f_nm F 27 rfl)) (f_keep F 27 rfl) (b_f26 O (c_index_of F KX G O) (c_piece_attacks F KX G O))
theorem c_weak_moves (F : FactsP K) (KX : K.In h₀) (G : h₀.Ns mainGlobals mg) (O : CxOk (theC (XX w K h₀ mg σ))) : Callee (XX w K h₀ mg σ) 2 f27 (Str.ofString "weak_moves") :=
  callee_of O (f_fd F 28 rfl) ks_weak_moves (.cons n_0 (.cons n_12 (.cons n_6 (.cons n_4 (.cons n_11 .nil))))) (mg_of KX G (f_nm F 28 rfl)) (f_keep F 28 rfl) (b_f27 O (c_index_of F KX G O))
theorem c_strong_moves (F : FactsP K) (KX : K.In h₀) (G : h₀.Ns mainGlobals mg) (O : CxOk (theC (XX w K h₀ mg σ))) : Callee (XX w K h₀ mg σ) 7 f28 (Str.ofString "strong_moves") :=
  callee_of O (f_fd F 29 rfl) ks_strong_moves (.cons n_0 (.cons n_12 (.cons n_7 (.cons n_6 (.cons n_4 (.cons n_11 .nil)))))) (mg_of KX G (f_nm F 29 rfl)) (f_keep F 29 rfl) (b_f28 O (c_index_of F KX G O) (c_piece_attacks F KX G O))
theorem c_moves_at (F : FactsP K) (KX : K.In h₀) (G : h₀.Ns mainGlobals mg) (O : CxOk (theC (XX w K h₀ mg σ))) : Callee (XX w K h₀ mg σ) 8 f29 (Str.ofString "moves_at") :=
  callee_of O (f_fd F 30 rfl) ks_moves_at (.cons n_0 (.cons n_12 (.cons n_7 (.cons n_14 (.cons n_6 (.cons n_4 (.cons n_11 .nil))))))) (mg_of KX G (f_nm F 30 rfl)) (f_keep F 30 rfl) (b_f29 O (c_strong_moves F KX G O) (c_weak_moves F KX G O))
theorem c_build_zone (F : FactsP K) (KX : K.In h₀) (G : h₀.Ns mainGlobals mg) (O : CxOk (theC (XX w K h₀ mg σ))) : Callee (XX w K h₀ mg σ) 9 f30 (Str.ofString "build_zone") :=
  callee_of O (f_fd F 31 rfl) ks_build_zone (.cons n_0 (.cons n_7 (.cons n_61 .nil))) (mg_of KX G (f_nm F 31 rfl)) (f_keep F 31 rfl) (b_f30 O (c_mark_places F KX G O) (c_moves_at F KX G O) (c_parts_of F KX G O) (c_solve F KX G O))
theorem c_Position (F : FactsP K) (KX : K.In h₀) (G : h₀.Ns mainGlobals mg) (O : CxOk (theC (XX w K h₀ mg σ))) : Maker (XX w K h₀ mg σ) 1 1 c1 (Str.ofString "Position") :=
  maker_of O (by decide) (f_fd F 32 rfl) ks_Position (.cons n_3 (.cons n_0 (.cons n_60 .nil))) (mg_of KX G (f_nm F 32 rfl)) (f_keep F 32 rfl) (f_cl F 1 rfl).2.2.2.2.2.2.1 (f_cl F 1 rfl).2.2.2.2.2.2.2 (b_c1 O )
theorem c_Zobrist (F : FactsP K) (KX : K.In h₀) (G : h₀.Ns mainGlobals mg) (O : CxOk (theC (XX w K h₀ mg σ))) : Maker (XX w K h₀ mg σ) 1 2 c2 (Str.ofString "Zobrist") :=
  maker_of O (by decide) (f_fd F 33 rfl) ks_Zobrist (.cons n_3 (.cons n_53 (.cons n_49 (.cons n_55 (.cons n_14 .nil))))) (mg_of KX G (f_nm F 33 rfl)) (f_keep F 33 rfl) (f_cl F 2 rfl).2.2.2.2.2.2.1 (f_cl F 2 rfl).2.2.2.2.2.2.2 (b_c2 O )
theorem c__law_board (F : FactsP K) (KX : K.In h₀) (G : h₀.Ns mainGlobals mg) (O : CxOk (theC (XX w K h₀ mg σ))) : Callee (XX w K h₀ mg σ) 4 f31 (Str.ofString "_law_board") :=
  callee_of O (f_fd F 34 rfl) ks__law_board (.cons n_0 (.cons n_6 (.cons n_37 .nil))) (mg_of KX G (f_nm F 34 rfl)) (f_keep F 34 rfl) (b_f31 O (c_Position F KX G O) (c_Zobrist F KX G O) (c_make_piece F KX G O) (c_put_piece F KX G O))
end
end Mine

namespace Mine
open PySem PySem.SeqAt PySem.W PySem.Calls PyProof.Rows

theorem execs_app (xs ys : List Stmt) (env : Env) : execs (xs ++ ys) env = (do match ← execs xs env with | .next => execs ys env | f => pure f) := by
  induction xs with
  | nil =>
    have e : execs [] env = pure .next := rfl
    rw [e, pure_bind]; rfl
  | cons st rest ih =>
    rw [List.cons_append, execs_cons, execs_cons, ih, bind_assoc]
    congr 1
    funext f
    cases f <;> simp

section
variable {c : Cx} {r : Nat} {sc : Scope}
theorem snd_app2 {a b : Sx} {sa sb : List Stmt} (ha : SndSS c r sc a sa) (hb : SndSS c r sc b sb) {lo lo1 lo' : Lo} {H H1 H' : Hp} {f : Fl} (h1 : a lo H = .ok .next lo1 H1) (h2 : b lo1 H1 = .ok f lo' H') {env : Env} {A : Around} {φ : Phi} {s : Shared} {Q : Flow → Shared → Prop} {E : Value → Shared → Prop}
    (S : ScOk sc env) (hA : Rm r A) (R : SR c φ H s.heap) (N : EnvR c env φ lo s.heap)
    (q : ∀ φ' h' tk g, SR c φ' H' h' → Ext (ownX env) φ s.heap φ' h' → EnvR c env φ' lo' h' → FR c φ' f g → Q g { s with heap := h', toks := tk }) : wpAny (model c.prog c.w) A (execs (sa ++ sb) env) Q E s := by
  rw [execs_app]
  refine wpAny_bind (ha lo H .next lo1 H1 h1 env A φ s _ E S hA R N fun φ1 hp1 tk1 g R1 X1 N1 z1 => ?_)
  cases z1
  exact hb lo1 H1 f lo' H' h2 env A φ1 _ Q E S hA R1 N1 fun φ2 hp2 tk2 g R2 X2 N2 z2 => q φ2 hp2 tk2 g R2 (X1.trans X2) N2 z2

theorem SR.empty {φ : Phi} (hφ : ∀ n, φ n = none) {h : Heap} (hb : ∀ b o, c.h₀.get? b = some o → h.get? b = some o) : SR c φ ⟨.e, .nil⟩ h where
  base := hb
  rel := fun n o e => by
    have : ∀ p : Pn, TrO.nil.get p = none := fun p => by
      induction p with
      | e => rfl
      | o p ih => exact ih
      | i p ih => exact ih
    have e' : TrO.nil.get n = some o := e
    rw [this n] at e'; cases e'
  inj := fun n m a e => by rw [hφ n] at e; cases e
  dom := fun n a e => by rw [hφ n] at e; cases e

theorem ints_get : ∀ {ys : List Value} {l : List Int}, IntsAre ys l → ∀ (i : Nat) z, l[i]? = some z → ∃ t, ys[i]? = some (.int z t)
  | _, _, .nil, i, z, h => by simp at h
  | _, _, .cons n t r, 0, z, h => by simp at h; subst h; exact ⟨t, rfl⟩
  | _, _, .cons n t r, i + 1, z, h => by simpa using ints_get r i z (by simpa using h)
theorem ints_app : ∀ {ys zs : List Value} {l m : List Int}, IntsAre ys l → IntsAre zs m → IntsAre (ys ++ zs) (l ++ m)
  | _, _, _, _, .nil, q => q
  | _, _, _, _, .cons n t r, q => .cons n t (ints_app r q)
theorem ints_take : ∀ (k : Nat) {ys : List Value} {l : List Int}, IntsAre ys l → IntsAre (ys.take k) (l.take k)
  | 0, _, _, _ => by simp; exact .nil
  | k + 1, _, _, .nil => by simp; exact .nil
  | k + 1, _, _, .cons n t r => .cons n t (ints_take k r)

theorem bounds3 : ∀ n : Nat, n < 3 → sliceBounds none (some 3) none n = sliceBounds none none none n
  | 0, _ => rfl
  | 1, _ => rfl
  | 2, _ => rfl
  | n + 3, h => by omega
theorem pick3 (items : Array Value) : (slicePick items none (some 3) none).toList = items.toList.take 3 := by
  by_cases h : items.size < 3
  · have e : slicePick items none (some 3) none = slicePick items none none none := by
      unfold slicePick
      rw [bounds3 _ h]
    rw [e]
    have := pick_eq items none none (by simp) (by simp)
    simp only [Option.map_none, Option.getD_none, List.drop_zero] at this
    rw [this, List.take_of_length_le (by simp), List.take_of_length_le (by simp; omega)]
  · have := pick_eq items none (some 3) (by simp; omega) (by simp)
    simpa using this

/-- what the law makes of its argument: three cells, of which the remainders are known -/
theorem first_R {X : CA} (O : CxOk (theC X)) {env : Env} {A : Around} {φ : Phi} {s : Shared} {Q : Flow → Shared → Prop} {E : Value → Shared → Prop} {l : Addr} {items : Array Value} {zs : List Int} {m : Str → Option Value} {p1 p2 p3 p4 p5 p6 p7 p8 q1 q2 q3 : Pos} {k k1 k2 k3 : Nat} {r : Nat}
    (hφ : ∀ n, φ n = none) (S : ScOk sc env) (hA : Rm r A) (R : SR (theC X) φ ⟨.e, .nil⟩ s.heap) (N : EnvR (theC X) env φ .nil s.heap) (hns : s.heap.Ns env.locals m) (hm : m (Str.ofString "script") = some (.ref l)) (hs : env.kindOf (Str.ofString "script") = some .local) (hc : env.kindOf (Str.ofString "cells") = some .local)
    (hl : s.heap.IsList l items) (hi : IntsAre items.toList zs) (hz : items.size ≤ 100) (hσ : ∀ k : Nat, k < 3 → (zs.take 3 ++ [0, 0, 0])[k]? = some (X.σ k))
    (q : ∀ φ' h' tk, SR (theC X) φ' hp0 h' → Ext (ownX env) φ s.heap φ' h' → EnvR (theC X) env φ' lo0 h' → Q .next { s with heap := h', toks := tk }) :
    wpAny (model X.prog X.w) A (exec (.Assign [.Name (Str.ofString "cells") p1] (.BinOp (.Subscript (.Name (Str.ofString "script") p2) (.Slice none (some (.Constant (.int 3) k p3)) none p4) p5) .Add (.List [.Constant (.int 0) k1 q1, .Constant (.int 0) k2 q2, .Constant (.int 0) k3 q3] p6) p7) p8) env) Q E s := by
  refine wpAny_Assign_Name (wpAny_BinOp ?_) (noSwap rfl _ _ _)
  refine Subscript_ (wpAny_Name (wpAny_loadName_local N.kind hs hns hm ?_) (by decide +kernel))
  refine wpAny_Slice (snd_p_no (c := theC X) (r := r) (sc := sc) .nil ⟨.e, .nil⟩ _ _ rfl env A φ s _ E S hA R N fun φ1 hp1 tk1 w1 R1 X1 z1 => ?_)
  have kp1 : ∀ b o, s.heap.get? b = some o → hp1.get? b = some o := fun b o e => X1.keep b o e (fun n e => by rw [hφ n] at e; cases e) fun q => q
  have R1' := SR.empty (c := theC X) hφ (h := hp1) fun b o e => kp1 b o (R.base b o e)
  refine snd_p_so (c := theC X) (r := r) (sc := sc) (a := e_lit (.int 3)) snd_lit_int .nil ⟨.e, .nil⟩ _ _ rfl env A φ { s with heap := hp1, toks := tk1 } _ E S hA R1' (N.grown kp1) fun φ2 hp2 tk2 w2 R2 X2 z2 => ?_
  have kp2 : ∀ b o, hp1.get? b = some o → hp2.get? b = some o := fun b o e => X2.keep b o e (fun n e => by rw [hφ n] at e; cases e) fun q => q
  rw [evalPart_none]
  refine wpAny_pure ?_
  have pa : IsPart w1 Option.none := by cases z1; exact .none
  have pb : IsPart w2 (some 3) := by cases z2 with | some z => exact slcN_ok (x := some (.int 3)) (l := some 3) rfl (.some z)
  have hl2 : hp2.IsList l items := by
    obtain ⟨o, ho, r⟩ := hl
    exact ⟨o, kp2 _ _ (kp1 _ _ ho), r⟩
  have hl' : (hp2.push { cls := .type "slice", data := .fields #[w1, w2, .none] }).IsList l items := hl2.push _
  refine tail_any (T := "list") (ops := [.ref hp2.objs.size, .ref l]) (Heap.IsList.typeIs (s := { s with heap := hp2.push { cls := .type "slice", data := .fields #[w1, w2, .none] } }) hl') list_getitem_lookup
    (wpAny_getItem_list_slice hl' (Heap.IsSliceOf.new ..) pa pb .none (by simp) ?_ (line_size (by omega))) rfl
  dsimp only
  generalize hh3 : hp2.push { cls := .type "slice", data := .fields #[w1, w2, .none] } = h3 at hl' ⊢
  have k3 : ∀ b o, hp2.get? b = some o → h3.get? b = some o := fun b o e => hh3 ▸ Heap.get?_push_of_some _ e
  have kk : ∀ b o, s.heap.get? b = some o → (h3.push { cls := .type "list", data := .seq (slicePick items none (some 3) none) }).get? b = some o := fun b o e => Heap.get?_push_of_some _ (k3 _ _ (kp2 _ _ (kp1 _ _ e)))
  have L1 : IsL (h3.push { cls := .type "list", data := .seq (slicePick items none (some 3) none) }) h3.objs.size (slicePick items none (some 3) none) 0 := Heap.get?_push_size _ rfl
  have R3 := SR.empty (c := theC X) hφ (h := h3.push { cls := .type "list", data := .seq (slicePick items none (some 3) none) }) fun b o e => kk b o (R.base b o e)
  refine snd_lst (c := theC X) (r := r) (sc := sc) (snd_l_cons (by rfl) (snd_lit_int (i := 0)) (snd_l_cons (by rfl) (snd_lit_int (i := 0)) (snd_l_cons (by rfl) (snd_lit_int (i := 0)) snd_l_nil))) .nil ⟨.e, .nil⟩ _ _ rfl env A φ { s with heap := h3.push { cls := .type "list", data := .seq (slicePick items none (some 3) none) }, toks := tk2 } _ E S hA R3 (N.grown kk) fun φ4 h4 tk4 y4 R4 X4 z4 => ?_
  have k4 : ∀ b o, (h3.push { cls := .type "list", data := .seq (slicePick items none (some 3) none) }).get? b = some o → h4.get? b = some o := fun b o e => X4.keep b o e (fun n e => by rw [hφ n] at e; cases e) fun q => q
  cases z4 with
  | @ref n a e4 =>
    obtain ⟨a2, e5, w5⟩ := R4.rel .e (.list [.int 0, .int 0, .int 0]) rfl
    rw [e4] at e5
    cases e5
    cases w5 with
    | @list _ its kI hI hr =>
      have L4 := k4 _ _ L1
      refine P.add_list L4 hI ?_ ?_
      · have kk4 : ∀ b o, s.heap.get? b = some o → h4.get? b = some o := fun b o e => k4 b o (kk b o e)
        have R5 := SR.empty (c := theC X) hφ (h := h4) fun b o e => kk4 b o (R.base b o e)
        have hints : IntsAre its.toList [0, 0, 0] := intsV_are (c := theC X) (φ := φ4) (vs := [.int 0, .int 0, .int 0]) rfl hr
        have hall : IntsAre (slicePick items none (some 3) none ++ its).toList (zs.take 3 ++ [0, 0, 0]) := by
          rw [Array.toList_append, pick3]
          exact ints_app (ints_take 3 hi) hints
        have hpre : ∀ (ψ : Phi) (i : Nat) (v : V), ([V.sym 0, .sym 1, .sym 2] : List V)[i]? = some v → ∃ x, (slicePick items none (some 3) none ++ its)[i]? = some x ∧ VR (theC X) ψ v x := fun ψ i v hv => by
          have go : ∀ k : Nat, k < 3 → ∃ x, (slicePick items none (some 3) none ++ its)[k]? = some x ∧ VR (theC X) ψ (.sym k) x := fun k hk => by
            obtain ⟨t, ht⟩ := ints_get hall k _ (hσ k hk)
            exact ⟨_, by rw [← Array.getElem?_toList]; exact ht, .sym k t⟩
          match i, hv with
          | 0, hv => cases hv; exact go 0 (by omega)
          | 1, hv => cases hv; exact go 1 (by omega)
          | 2, hv => cases hv; exact go 2 (by omega)
          | i + 3, hv => simp at hv
        obtain ⟨R6, X6⟩ := R5.push (x := { cls := .type "list", data := .seq (slicePick items none (some 3) none ++ its) }) (o := .pre [.sym 0, .sym 1, .sym 2]) rfl (.pre (Heap.get?_push_size _ rfl) (hpre _))
        have X0 : Ext noX φ s.heap φ h4 := .grown kk4
        have XX := X0.trans X6
        refine store_R (s := { s with heap := h4.push { cls := .type "list", data := .seq (slicePick items none (some 3) none ++ its) }, toks := tk4 }) O n_48 (.inl hc) R6 (N.ext XX) (.ref Phi.put_self) fun h' tk R7 X7 N7 => ?_
        exact q _ h' tk R7 (XX.of_no.trans X7) N7
      · have h1 : (slicePick items none (some 3) none).size ≤ 3 := by rw [← Array.length_toList, pick3, List.length_take]; omega
        have h2 := hr.length
        rw [Array.length_toList] at h2
        exact line_size (by rw [h2]; simp only [List.length_cons, List.length_nil]; omega)
end
end Mine

namespace Mine
open PySem PySem.SeqAt PySem.W PySem.Calls PyProof.Rows

def smA (r0 r1 : Int) : Nat → Int → Option Int
  | 0, .ofNat 4 => some r0
  | 1, .ofNat 4 => some r1
  | _, _ => Option.none
noncomputable def checkA (r0 r1 : Int) (n : Nat) : Bool := match lawA (smA r0 r1) lo0 hp0 with
  | .ok .next lo H => allB r0 r1 lo H n
  | _ => false
theorem isT_ok {x : RS} (h : isT x = true) : ∃ lo H, x = .ok (.ret (.bool true)) lo H := by
  match x, h with
  | .ok (.ret (.bool true)) lo H, _ => exact ⟨lo, H, rfl⟩
theorem allB_ok {r0 r1 : Int} {lo : Lo} {H : Hp} : ∀ {n : Nat}, allB r0 r1 lo H n = true → ∀ k, k < n → isT (lawB (smT r0 r1 (.ofNat k)) lo H) = true
  | n + 1, h, k, hk => by
    unfold allB at h
    split at h
    · rename_i e
      by_cases q : k = n
      · subst q; exact e
      · exact allB_ok h k (by omega)
    · cases h
theorem checkA_ok {r0 r1 : Int} {n : Nat} (h : checkA r0 r1 n = true) : ∃ lo H, lawA (smA r0 r1) lo0 hp0 = .ok .next lo H ∧ ∀ k, k < n → ∃ lo' H', lawB (smT r0 r1 (.ofNat k)) lo H = .ok (.ret (.bool true)) lo' H' := by
  unfold checkA at h
  split at h
  · rename_i lo H e
    exact ⟨lo, H, e, fun k hk => isT_ok (allB_ok h k hk)⟩
  · cases h

theorem law_cells : ∀ n : Nat, ((scOf (fnAt 62)).names.all fun p => !(p.2 == .free) && (!(p.2 == .cell) || ((cellsFrom n (scOf (fnAt 62)).names []).lookup p.1).isSome)) = true := fun n => by kernel_rfl
theorem law_kind : ((scOf (fnAt 62)).kind == .function && !(scOf (fnAt 62)).isCoroutine && !(scOf (fnAt 62)).isGenerator && (scOf (fnAt 62)).names.lookup (Str.ofString "script") == some .local && (scOf (fnAt 62)).names.lookup (Str.ofString "cells") == some .local) = true := by decide +kernel
theorem law_par : parOf (fnAt 62) = [Str.ofString "script"] := by kernel_rfl
def law0 : Stmt := match bodyOf (fnAt 62) with
  | x :: _ => x
  | [] => .Pass ⟨0, 0, 0, 0⟩
theorem law_body : bodyOf (fnAt 62) = law0 :: ((((bodyOf (fnAt 62)).drop 1).take 6) ++ (bodyOf (fnAt 62)).drop 7) := by kernel_rfl

theorem mem_look {β : Type} {l : List (Str × β)} {a : Str} {b : β} (h : l.lookup a = some b) : (a, b) ∈ l := by
  obtain ⟨l₁, l₂, e, _⟩ := List.lookup_eq_some_iff.mp h
  rw [e]; simp

theorem fmod_pick (z : Int) : z.fmod 4 = 0 ∨ z.fmod 4 = 1 ∨ z.fmod 4 = 2 ∨ z.fmod 4 = 3 := by
  rw [Int.fmod_eq_emod_of_nonneg z (show (0 : Int) ≤ 4 by decide)]
  omega

theorem law_run {w : World} {s₁ : Shared} {K₀ : Frag} {mg mb : Str → Option Value} (F : FactsP K₀) (KX : K₀.In s₁.heap) (G : s₁.heap.Ns mainGlobals mg) (B : s₁.heap.Ns builtinsNs mb) (b1 : mb (Str.ofString "range") = some (.type "range")) (b2 : mb (Str.ofString "len") = some (.builtin "len")) (L : s₁.heap.NoLimit)
    (all : ∀ r0 r1 : Int, (r0 = 0 ∨ r0 = 1 ∨ r0 = 2 ∨ r0 = 3) → (r1 = 0 ∨ r1 = 1 ∨ r1 = 2 ∨ r1 = 3) → checkA r0 r1 21 = true)
    {l : Addr} {items : Array Value} {zs : List Int} (hl : s₁.heap.IsList l items) (hi : IntsAre items.toList zs) (hz : items.size ≤ 100) {A : Around} (hA : Rm 10 A) (T : Result → Shared → Prop)
    (q : ∀ h' tk, (∀ b o, s₁.heap.get? b = some o → h'.get? b = some o) → T (.ok (.ret (.bool true))) { s₁ with heap := h', toks := tk }) :
    codeAny (model Challenge.rw_sm0018_01.row.prog w) A (.call (.ref 338) ⟨[.ref l], []⟩) T s₁ := by
  let σ : Nat → Int := fun k => (zs.take 3 ++ [0, 0, 0]).getD k 0
  have hσ : ∀ k : Nat, k < 3 → (zs.take 3 ++ [0, 0, 0])[k]? = some (σ k) := fun k hk => by
    show _ = some ((zs.take 3 ++ [0, 0, 0]).getD k 0)
    rw [List.getD_eq_getElem?_getD]
    have : k < (zs.take 3 ++ [0, 0, 0]).length := by simp; omega
    rw [List.getElem?_eq_getElem this]; rfl
  have O : CxOk (theC (XX w K₀ s₁.heap mg σ)) := xx_ok F KX G B b1 b2 L
  obtain ⟨fd, D⟩ := FdOk.of (f_fd F 35 rfl)
  obtain ⟨oc, od, osl, look⟩ := D.look
  have K := law_kind
  simp only [Bool.and_eq_true, Bool.not_eq_true', beq_iff_eq] at K
  obtain ⟨⟨⟨⟨k1, k2⟩, k3⟩, k4⟩, k5⟩ := K
  have hpar : parNames fd = [Str.ofString "script"] := D.par.trans law_par
  have hbind : bindArgs fd ⟨[.ref l], []⟩ = pure [(Str.ofString "script", .ref l)] := by
    rw [bind_plain D.ok (by rw [hpar]; rfl), hpar]; rfl
  refine codeAny_call_cells (fd := fd) (body := bodyOf (fnAt 62)) (by have := hA.2.1; rw [show recursionLimit = 1000 from rfl]; omega) (KX _ _ look) rfl L (codeRec_of KX D.code) D.body hbind D.clo (fun x hx => ?_) (fun s x => ?_) (by rw [D.scope]; exact k2) (by rw [D.scope]; exact k3) (by rw [D.scope]; exact k1)
  · simp at hx
    subst hx
    rw [D.scope]
    exact .inl k4
  · generalize hE : callEnvC fd s₁.heap.objs.size 338 = env at x ⊢
    have eLoc : env.locals = s₁.heap.objs.size := by subst hE; rfl
    have eScope : env.scope = scOf (fnAt 62) := by subst hE; exact D.scope
    have eCells : env.cells = cellsFrom (s₁.heap.objs.size + 1) (scOf (fnAt 62)).names [] := by
      subst hE
      show cellsFrom _ fd.scope.names [] = _
      rw [D.scope]
    have kof : ∀ y, env.kindOf y = (scOf (fnAt 62)).names.lookup y := fun y => by
      show env.scope.names.lookup y = _
      rw [eScope]
    have hscr : env.kindOf (Str.ofString "script") = some .local := (kof _).trans k4
    have hcel : env.kindOf (Str.ofString "cells") = some .local := (kof _).trans k5
    have hall := List.all_eq_true.mp (law_cells (s₁.heap.objs.size + 1))
    have noFree : ∀ y, env.kindOf y ≠ some .free := fun y e => by
      have := hall _ (mem_look ((kof y).symm.trans e))
      simp at this
    obtain ⟨h0, t0, e0⟩ := x.toInCall.same
    have keep := x.toInCall.keep
    have fresh : ∀ b, s₁.heap.objs.size ≤ b → s₁.heap.get? b = none := fun b hb => by
      cases e : s₁.heap.get? b with
      | none => rfl
      | some o => exact absurd (Heap.lt_size e) (Nat.not_lt.mpr hb)
    have S : ScOk (scOf (fnAt 62)) env := fun y k hk => by
      have e : env.kindOf y = some k := (kof y).trans hk
      cases k <;> first | exact e | exact trivial | exact .inl e | exact .inr e
    have R : SR (theC (XX w K₀ s₁.heap mg σ)) (fun _ => none) ⟨.e, .nil⟩ s.heap := SR.empty (fun _ => rfl) keep
    have N : EnvR (theC (XX w K₀ s₁.heap mg σ)) env (fun _ => none) .nil s.heap := by
      refine ⟨by rw [eScope]; exact k1, by subst hE; exact D.glob, by subst hE; exact D.bi, ⟨_, x.toInCall.ns, fun p y v _ hv => (by rw [TrV.get_nil] at hv; cases hv)⟩, fun p y v _ hv => (by rw [TrV.get_nil] at hv; cases hv), fun b ob => ?_, fun y hy => ?_, fun y1 y2 a e1 e2 => name_of_addr x.apart (mem_look e1) (mem_look e2), fun y a e e2 => ?_⟩
      · refine ⟨fun n e => (by cases e), ?_, ?_⟩
        · rcases ob with e | ⟨y, e⟩
          · exact fresh b (by rw [e, eLoc]; exact Nat.le_refl _)
          · exact fresh b (by have := x.above _ _ (mem_look e); rw [eLoc] at this; exact Nat.le_of_lt this)
        · rcases ob with e | ⟨y, e⟩
          · obtain ⟨o, es, ep, a, _⟩ := x.toInCall.ns
            rw [e]; exact some_ne a
          · obtain ⟨o, a, _⟩ := x.cell _ _ e
            exact some_ne a
      · rcases hy with hy | hy
        · have := hall _ (mem_look ((kof y).symm.trans hy))
          simp only [Bool.and_eq_true, Bool.or_eq_true] at this
          have := this.2.resolve_left (by simp)
          obtain ⟨a, ha⟩ := Option.isSome_iff_exists.mp this
          have ha' : env.cells.lookup y = some a := by rw [eCells]; exact ha
          exact ⟨a, _, ha', x.cell _ _ ha'⟩
        · exact absurd hy (noFree y)
      · have := x.above _ _ (mem_look e)
        rw [e2] at this
        exact Nat.lt_irrefl _ this
    have hm : bindL env.kindOf [(Str.ofString "script", Value.ref l)] (fun _ => none) (Str.ofString "script") = some (.ref l) := by
      unfold bindL bindL
      rw [if_pos hscr]
      exact if_pos rfl
    have hA9 : Rm 9 (A.deeper env) := ⟨hA.1, by have := hA.2.1; show A.depth + 1 + 4 * 9 < 900; omega, by have := hA.2.2; show A.units + 3 + 16 * 9 + 100 < cLine; omega⟩
    have hl' : s.heap.IsList l items := by
      obtain ⟨o, a, b⟩ := hl
      exact ⟨o, keep _ _ a, b⟩
    obtain ⟨lo, H, eA, eB⟩ := checkA_ok (all ((σ 0).fmod 4) ((σ 1).fmod 4) (fmod_pick _) (fmod_pick _))
    have h2a : 0 ≤ (σ 2).fmod 21 := by rw [Int.fmod_eq_emod_of_nonneg _ (show (0 : Int) ≤ 21 by decide)]; omega
    have h2b : (σ 2).fmod 21 < 21 := by rw [Int.fmod_eq_emod_of_nonneg _ (show (0 : Int) ≤ 21 by decide)]; omega
    obtain ⟨n, hn⟩ := Int.eq_ofNat_of_zero_le h2a
    obtain ⟨lo', H', eB⟩ := eB n (by omega)
    have smA_ok : ∀ k m z, smA ((σ 0).fmod 4) ((σ 1).fmod 4) k m = some z → m ≠ 0 ∧ (σ k).fmod m = z := fun k m z h => by
      unfold smA at h
      split at h
      · cases h; exact ⟨by decide, rfl⟩
      · cases h; exact ⟨by decide, rfl⟩
      · cases h
    have smT_ok : ∀ k m z, smT ((σ 0).fmod 4) ((σ 1).fmod 4) (.ofNat n) k m = some z → m ≠ 0 ∧ (σ k).fmod m = z := fun k m z h => by
      unfold smT at h
      split at h
      · cases h; exact ⟨by decide, rfl⟩
      · cases h; exact ⟨by decide, rfl⟩
      · cases h; exact ⟨by decide, hn⟩
      · cases h
    have pa := b_lawA (X := XX w K₀ s₁.heap mg σ) O smA_ok (c__law_board F KX G O) (c_build_zone F KX G O) (c_index_of F KX G O) (c_is_insufficient F KX G O) (c_make_geometry F KX G O)
    have pb := b_lawB (X := XX w K₀ s₁.heap mg σ) O smT_ok (c__law_board F KX G O) (c_build_zone F KX G O) (c_index_of F KX G O) (c_is_insufficient F KX G O) (c_make_geometry F KX G O)
    rw [law_body]
    refine wpAny_execs_cons ?_
    refine first_R (X := XX w K₀ s₁.heap mg σ) (r := 9) O (fun _ => rfl) S hA9 R N x.toInCall.ns hm hscr hcel hl' hi hz hσ fun φ1 h1 tk1 R1 X1 N1 => ?_
    refine snd_app2 pa pb eA eB S hA9 (s := { s with heap := h1, toks := tk1 }) R1 N1 fun φ2 h2 tk2 g R2 X2 N2 z2 => ?_
    cases z2 with
    | ret z =>
      cases z
      have := q h2 tk2 R2.base
      subst e0
      exact this
end Mine

namespace Mine
open PySem PySem.W PyProof.Rows
noncomputable def loopT (ok : Thread → Bool) (st : SharedT → Thread → Option (SharedT × Thread)) (N : Nat) : SharedT → Thread → Option SharedT :=
  @Nat.rec (fun _ => SharedT → Thread → Option SharedT) (fun _ _ => none)
    (fun _ ih s t => @Bool.rec (fun _ => Option SharedT)
      (@Bool.rec (fun _ => Option SharedT) none
        (@Option.rec (SharedT × Thread) (fun _ => Option SharedT) none (fun r => @Prod.rec SharedT Thread (fun _ => Option SharedT) (fun s' t' => ih s' t') r) (st s t)) (ok t))
      (some s) (through t)) N
section
variable {p : Program} {w : World} {n₀ : Nat} {ann : Option Value}
theorem loopT_spec : ∀ {n : Nat} {s s' : SharedT} {t : Thread}, loopT (stepOk n₀ ann) (stepT (denote treeTable) p w) n s t = some s' → topRun treeTable p w n₀ ann n s.abs t = some s'.abs
  | 0, _, _, _, h => by cases h
  | n + 1, s, s', t, h => by
    change @Bool.rec (fun _ => Option SharedT) (@Bool.rec (fun _ => Option SharedT) none
        (@Option.rec (SharedT × Thread) (fun _ => Option SharedT) none (fun r => @Prod.rec SharedT Thread (fun _ => Option SharedT) (fun s' t' => loopT (stepOk n₀ ann) (stepT (denote treeTable) p w) n s' t') r) (stepT (denote treeTable) p w s t)) (stepOk n₀ ann t))
      (some s) (through t) = some s' at h
    unfold topRun
    cases ht : through t with
    | true => rw [ht] at h; cases h; rfl
    | false =>
      rw [ht] at h
      cases hk : stepOk n₀ ann t with
      | false => rw [hk] at h; cases h
      | true =>
        rw [hk] at h
        cases hs : stepT (denote treeTable) p w s t with
        | none => rw [hs] at h; cases h
        | some r => obtain ⟨s₂, t₂⟩ := r; rw [hs] at h; dsimp only; rw [stepT_spec hs]; exact loopT_spec h
end
noncomputable def bootT (P : Params) : BT := (boot_heap P).objs.toList.zipIdx.foldl (fun t e => t.ins e.2 e.1) .nil
theorem bootT_abs (P : Params) : absHeap (bootT P) 11 (boot_heap P).life = boot_heap P := by kernel_rfl
noncomputable def boot_s (w : World) (os : OsState) : SharedT := ⟨bootT w.params, 11, (boot_heap w.params).life, #[], boot_drawn, boot_toks, os⟩
def prL : Program := PySem.Challenge.rw_sm0018_01.row.prog
theorem opens (w : World) : (fencedOpening treeTable prL w 5152).map (fun s => (s.heap, s.gens, s.drawn, s.toks)) = some (boot_heap w.params, #[], boot_drawn, boot_toks) :=
  boot_open (by kernel_rfl) (by decide +kernel) (fun s => by rfl) w
theorem boot_size (P : Params) : ((boot_heap P).isNs mainGlobals && (#[] : Array GenState).size == 0, (boot_heap P).objs.size, (boot_heap P).nsMap mainGlobals "__annotations__") = (true, 11, some (.ref 6)) := by kernel_rfl
noncomputable def runT (w : World) (os : OsState) : Option SharedT := loopT (stepOk 11 (some (.ref 6))) (stepT (denote treeTable) prL w) 5152 (boot_s w os) (topStub prL)
end Mine

namespace Mine
open PySem PySem.W PyProof.Rows
theorem said : PySem.Challenge.rw_sm0018_01.wellSaid = true := by
  rw [PySem.W.Fast.te9446332074065402090]
  kernel_rfl
def qv : Program := view PySem.Challenge.pw_sm0018_01 [1, 2, 4, 5, 6, 7, 8, 9, 10, 11, 12, 13, 14, 16, 17, 18, 20, 21, 23, 24, 25, 26, 27, 28, 29, 30, 31, 32, 33, 35, 36, 38, 39, 40, 41, 42, 43, 45, 46, 47, 48, 49, 50, 51, 52, 53, 54, 55, 56, 57, 59, 61, 62]
def XtL (s : Shared) : Bool := xlAt qv [] s && recOk (RowW.records PySem.Challenge.rw_sm0018_01.row.toRowW) s
theorem lookA (w : World) (os : OsState) : (runT w os).map (fun s => (staticsOk (importedModules prL.main.body) (boot_heap w.params) s.abs.heap && namesBound prL s.abs.heap && gensDone s.abs && laidKept (boot_heap w.params) s.abs.heap, seen ((recsOf qv).map (·.name)) (ownsOf qv) [] { s.abs with gens := #[] }, s.abs.heap.keysOk (looseW qv []) ((recsOf qv).map (·.name)) ((litsOf qv).map (·.1)) ((clssOf qv (looseW qv [])).map (·.name)) && s.abs.heap.accountedOkI (importedModules prL.main.body) && s.abs.heap.isNs mainGlobals && s.abs.heap.isNs builtinsNs && tablesOk qv s.abs.heap && XtL s.abs && (if true then s.abs.gens.size == 0 else !leftWithCleanup s.abs.gens))) = some (true, expectedOf qv, true) := by
  unfold runT
  rw [PySem.W.Fast.te10156331382660048174, PySem.W.Fast.te6613529449190102663, PySem.W.Fast.te11892475500146522536, PySem.W.Fast.te14364793385576792824, PySem.W.Fast.te5160383126252970620, PySem.W.Fast.te10880121769531294198, PySem.W.Fast.te14722251495701143533, PySem.W.Fast.te10994771534591457954, PySem.W.Fast.te7409074990110511671, PySem.W.Fast.te13664370479719496447, PySem.W.Fast.te821141287760084731, PySem.W.Fast.te3399658132070893891, PySem.W.Fast.te5991557255702980513]
  kernel_rfl
theorem lookB (w : World) (os : OsState) : (runT w os).map (fun s => (s.abs.heap.bltView, (tabsOk qv s.abs, pinSeenD qv (drecsOf qv) s.abs, plainSeenE qv (looseW qv []) s.abs, plainSeenD qv [] s.abs, wideSeen qv s.abs, clsSeenW qv [] s.abs))) = some (bltViewBooted, (true, pinGoodD (drecsOf qv), plainGoodE qv (looseW qv []), plainGoodD qv [], wideGood qv, clsGoodW qv [])) := by
  unfold runT
  rw [PySem.W.Fast.te10156331382660048174, PySem.W.Fast.te6613529449190102663, PySem.W.Fast.te11892475500146522536, PySem.W.Fast.te14364793385576792824, PySem.W.Fast.te479339242167458305, PySem.W.Fast.te16090120013241838585, PySem.W.Fast.te2386780881361962483, PySem.W.Fast.te11698064438423848299, PySem.W.Fast.te7317090234206586261, PySem.W.Fast.te7369524293546568484, PySem.W.Fast.te821141287760084731]
  kernel_rfl
theorem lookC (w : World) (os : OsState) : (runT w os).map (fun s => hookM.obs s.abs) = some (hookM.val w) := by
  unfold runT
  rw [PySem.W.Fast.te10156331382660048174, PySem.W.Fast.te6613529449190102663, PySem.W.Fast.te11892475500146522536, PySem.W.Fast.te14364793385576792824]
  kernel_rfl
theorem boot_abs (w : World) (os : OsState) : (boot_s w os).abs = ⟨boot_heap w.params, #[], boot_drawn, boot_toks, os⟩ := by
  unfold boot_s SharedT.abs
  dsimp only
  rw [bootT_abs]
theorem seen_of {q : Program} {loose mods : List Str} {Xt : Shared → Bool} {s : Shared} (a1 : seen ((recsOf q).map (·.name)) (ownsOf q) [] { s with gens := #[] } = expectedOf q) (a2 : s.heap.bltView = bltViewBooted)
    (a3 : (s.heap.keysOk (looseW q loose) ((recsOf q).map (·.name)) ((litsOf q).map (·.1)) ((clssOf q (looseW q loose)).map (·.name)) && s.heap.accountedOkI mods && s.heap.isNs mainGlobals && s.heap.isNs builtinsNs && tablesOk q s.heap && Xt s && (if true then s.gens.size == 0 else !leftWithCleanup s.gens)) = true)
    (a4 : (tabsOk q s, pinSeenD q (drecsOf q) s, plainSeenE q (looseW q loose) s, plainSeenD q loose s, wideSeen q s, clsSeenW q loose s) = (true, pinGoodD (drecsOf q), plainGoodE q (looseW q loose), plainGoodD q loose, wideGood q, clsGoodW q loose)) :
    openSeen q loose mods Xt true s = openGood q loose := by
  unfold openSeen openGood
  rw [a1, a2, a3, a4]
theorem left_at {p q : Program} {loose : List Str} {Xt : Shared → Bool} {α : Type} {Yf : Shared → α} {ya : α} {N : Nat} {w : World} {H₀ : Heap} {d₀ : Drawn} {k₀ m₀ : Nat} {ann : Option Value}
    (h1 : (fencedOpening treeTable p w N).map (fun s => (s.heap, s.gens, s.drawn, s.toks)) = some (H₀, #[], d₀, k₀))
    (h2 : (H₀.isNs mainGlobals && (#[] : Array GenState).size == 0, H₀.objs.size, H₀.nsMap mainGlobals "__annotations__") = (true, m₀, ann))
    (h3 : ∀ os, ∃ s, topRun treeTable p w m₀ ann N ⟨H₀, #[], d₀, k₀, os⟩ (topStub p) = some s ∧ (staticsOk (importedModules p.main.body) H₀ s.heap && namesBound p s.heap && gensDone s && laidKept H₀ s.heap) = true ∧
      openSeen q loose (importedModules p.main.body) Xt true s = openGood q loose ∧ Yf s = ya) :
    (openEnds treeTable p w N).map (fun s => (openSeen q loose (importedModules p.main.body) Xt true s, Yf s)) = some (openGood q loose, ya) := by
  obtain ⟨⟨h, gs, d, k, os⟩, e, e'⟩ := Option.map_eq_some_iff.mp h1
  obtain ⟨rfl, rfl, rfl, rfl⟩ : h = H₀ ∧ gs = #[] ∧ d = d₀ ∧ k = k₀ := by simpa only [Prod.mk.injEq] using e'
  obtain ⟨z1, z2, z3⟩ : _ ∧ _ ∧ _ := by simpa only [Prod.mk.injEq] using h2
  obtain ⟨s, r, a, b, c⟩ := h3 os
  have t : topFrom treeTable p w N ⟨h, #[], d, k, os⟩ = some s := by
    unfold topFrom
    dsimp only
    rw [z1, z2, z3, r]
    dsimp only [Option.bind]
    rw [a]
  unfold openEnds
  rw [e, Option.bind_some, t, Option.map_some, b, c]
theorem ran (w : World) (os : OsState) : ∃ s, topRun treeTable prL w 11 (some (.ref 6)) 5152 ⟨boot_heap w.params, #[], boot_drawn, boot_toks, os⟩ (topStub prL) = some s ∧ (staticsOk (importedModules prL.main.body) (boot_heap w.params) s.heap && namesBound prL s.heap && gensDone s && laidKept (boot_heap w.params) s.heap) = true ∧
      openSeen qv [] (importedModules prL.main.body) XtL true s = openGood qv [] ∧ hookM.obs s = hookM.val w := by
  obtain ⟨s, r, a⟩ := Option.map_eq_some_iff.mp (lookA w os)
  have b := lookB w os
  have c := lookC w os
  rw [r, Option.map_some] at b c
  have q := loopT_spec r
  rw [boot_abs] at q
  have a := Prod.mk.inj a
  have a' := Prod.mk.inj a.2
  have b := Prod.mk.inj (Option.some.inj b)
  exact ⟨s.abs, q, a.1, seen_of a'.1 b.1 a'.2 b.2, Option.some.inj c⟩
theorem left_ok : LeftO PySem.Challenge.rw_sm0018_01.row.prog qv [] XtL hookM.obs hookM.val 5152 := fun w => left_at (p := prL) (opens w) (boot_size w.params) (ran w)
end Mine

namespace Mine
open PySem PySem.SeqAt PySem.W PySem.Calls PyProof.Rows
theorem ints_len : ∀ {ys : List Value} {l : List Int}, IntsAre ys l → ys.length = l.length
  | _, _, .nil => rfl
  | _, _, .cons n t r => by simp [ints_len r]
theorem boot_range : bootBuiltins (Str.ofString "range") = some (.type "range") := by kernel_rfl
theorem boot_len : bootBuiltins (Str.ofString "len") = some (.builtin "len") := by kernel_rfl
theorem rm_caller : Rm 10 callerA := ⟨rfl, by decide +kernel, by decide +kernel⟩
theorem chk_0_0 : checkA 0 0 21 = true := by decide +kernel
theorem chk_0_1 : checkA 0 1 21 = true := by decide +kernel
theorem chk_0_2 : checkA 0 2 21 = true := by decide +kernel
theorem chk_0_3 : checkA 0 3 21 = true := by decide +kernel
theorem chk_1_0 : checkA 1 0 21 = true := by decide +kernel
theorem chk_1_1 : checkA 1 1 21 = true := by decide +kernel
theorem chk_1_2 : checkA 1 2 21 = true := by decide +kernel
theorem chk_1_3 : checkA 1 3 21 = true := by decide +kernel
theorem chk_2_0 : checkA 2 0 21 = true := by decide +kernel
theorem chk_2_1 : checkA 2 1 21 = true := by decide +kernel
theorem chk_2_2 : checkA 2 2 21 = true := by decide +kernel
theorem chk_2_3 : checkA 2 3 21 = true := by decide +kernel
theorem chk_3_0 : checkA 3 0 21 = true := by decide +kernel
theorem chk_3_1 : checkA 3 1 21 = true := by decide +kernel
theorem chk_3_2 : checkA 3 2 21 = true := by decide +kernel
theorem chk_3_3 : checkA 3 3 21 = true := by decide +kernel
theorem all_cases : ∀ r0 r1 : Int, (r0 = 0 ∨ r0 = 1 ∨ r0 = 2 ∨ r0 = 3) → (r1 = 0 ∨ r1 = 1 ∨ r1 = 2 ∨ r1 = 3) → checkA r0 r1 21 = true := by
  rintro r0 r1 (rfl | rfl | rfl | rfl) (rfl | rfl | rfl | rfl)
  · exact chk_0_0
  · exact chk_0_1
  · exact chk_0_2
  · exact chk_0_3
  · exact chk_1_0
  · exact chk_1_1
  · exact chk_1_2
  · exact chk_1_3
  · exact chk_2_0
  · exact chk_2_1
  · exact chk_2_2
  · exact chk_2_3
  · exact chk_3_0
  · exact chk_3_1
  · exact chk_3_2
  · exact chk_3_3
theorem law_at {w : World} {s₁ : Shared} {mg mb : Str → Option Value} {K₀ : Frag} (F : FactsP K₀) (KX : K₀.In s₁.heap) (G : s₁.heap.Ns mainGlobals mg) (B : s₁.heap.Ns builtinsNs mb) (bb : ∀ x : Str, x ≠ "__name__" → mb x = bootBuiltins x) (L : s₁.heap.NoLimit)
    {l : Addr} {ws : List Value} {zs : List Int} (hl : s₁.heap.IsList l ws.toArray) (hi : IntsAre ws zs) (hz : ¬ (63 : Int) < zs.length) (T : Result → Shared → Prop)
    (q : ∀ h' tk, (∀ b o, s₁.heap.get? b = some o → h'.get? b = some o) → T (.ok (.ret (.bool true))) { s₁ with heap := h', toks := tk }) :
    codeAny (model Challenge.rw_sm0018_01.row.prog w) callerA (.call (.ref 338) ⟨[.ref l], []⟩) T s₁ :=
  law_run F KX G B ((bb _ (by decide +kernel)).trans boot_range) ((bb _ (by decide +kernel)).trans boot_len) L all_cases hl hi (by rw [List.size_toArray, ints_len hi]; omega) rm_caller T q
def dP : Option Stmt → Arguments
  | some (.FunctionDef _ a _ _ _ _ _ _ _ _) => a
  | _ => ⟨[], [], none, [], [], none, []⟩
def dQ : Option Stmt → Pos
  | some (.FunctionDef _ _ _ _ _ _ _ _ _ p) => p
  | _ => ⟨0, 0, 0, 0⟩
def dL : DefRec := ⟨Str.ofString "law", dP (fnAt 62), bodyOf (fnAt 62), scOf (fnAt 62), dQ (fnAt 62)⟩
theorem addr_at {mg : Str → Option Value} {x : Str} {a b : Addr} (h : mg x = some (.ref a)) (k : mg x = some (.ref b)) : a = b := Value.ref.inj (Option.some.inj (h.symm.trans k))
theorem hdef : defOf qv Challenge.rw_sm0018_01.row.name = some (dL, []) := by kernel_rfl
theorem hthe : Challenge.rw_sm0018_01.row.prog.theDef Challenge.rw_sm0018_01.row.name = some (dL.params, dL.body, dL.scope) := by kernel_rfl
theorem hkw : kwWritten? dL.params.kwonlyargs dL.params.kw_defaults = some [] := by kernel_rfl
theorem hwr : (!Challenge.rw_sm0018_01.row.writes || Challenge.rw_sm0018_01.row.records.isEmpty) = true := by kernel_rfl
theorem hok : (chainsOk qv && opensWell Challenge.rw_sm0018_01.row.prog && (frees Challenge.rw_sm0018_01.row.toRowW && Challenge.rw_sm0018_01.row.within.isEmpty)) = true := by decide +kernel
theorem hbare : Challenge.rw_sm0018_01.row.prog.bare := ⟨rfl, rfl, rfl, rfl, rfl, by decide +kernel⟩
end Mine
open PySem PySem.W PyProof.Rows
theorem PySem.Challenge.cw_sm0018_01_holds : PySem.Challenge.rw_sm0018_01.Holds := by
  w_on
  refine holds_law Mine.said fun ok => ?_
  refine holds_open (q := Mine.qv) (loose := []) (Xt := Mine.XtL) (XP := XL Mine.qv []) (Yf := Mine.hookM.obs) (Ya := Mine.hookM.val) (YP := Mine.hookM.says) (N := 5152) Mine.left_ok Mine.hookM.of Mine.hookM.keeps
    (d := Mine.dL) (kwd := []) (fun s e => xl_of s (Bool.and_eq_true_iff.mp e).1) XL.keeps Mine.hdef Mine.hthe Mine.hkw (fun s e => recFacts_of (Bool.and_eq_true_iff.mp e).2) Mine.hwr ok Mine.hok Mine.hbare ?hw ?hc
  case hw => w_witness2
  case hc =>
    intro w s₀ s₁ mg mb G Y fa o pm cd doc dV kV ho hd' hcd hD hmg hg args vals as hpre hlay hrd hwl hlo
    obtain ⟨K₀, KX, F⟩ := Y
    refine Ground.open G ?_
    intro T B D TE TW
    have hfa : fa = 338 := Mine.addr_at (show mg (Str.ofString "law") = some (.ref fa) from hmg) (mg_of KX T.g (Mine.f_nm F 35 rfl))
    subst hfa
    wrow_args hpre hlay hrd hwl hlo
    all_goals refine enter_call ?_
    all_goals refine Mine.law_at F KX T.g T.b T.builtins T.nolimit (by assumption) (by assumption) (by assumption) _ fun h' tk keep => ?_
    all_goals refine GoodW.toG ⟨.inl ⟨_, _, [], rfl, raisesW_false ?_, ReadsW.bool true, ?_, fun _ => ⟨List.nodup_nil, fun _ hm => (nomatch hm)⟩⟩, keep, rfl, hg⟩
    · wrow_none_raised
    · wrow_post

