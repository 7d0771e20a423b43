import PyProof.Rows.All
import HandS.ForMost
import HandS.Exc
import HandS.TryOnly
import HandS.TryMany
import HandS.ExcOwn
import HandS.WordsExc
import HandS.Wide
import HandS.WideBits
import HandS.TupAny
import HandS.TupMul
import KE.DataEq
import HandS.IsInst
import HandS.Deep
import HandS.Zip
import HandS.Rev
import HandS.Codes
import HandS.EndBits
import HandS.Dict
import HandS.More
import HandS.WrittenGet
import HandS.Style
import HandS.TupSets
import HandS.SortOrd
import HandS.Conv
import HandS.DictTup
import KE.KDictSum
import HandS.RevTup
import HandS.SortKw
import HandS.TupLe
import HandS.SortRule
import HandS.SortInts
import Wide.All
import OpenK.AllK
import Wide.FinOn
import Open.SpecLaws
import KE.OsGo
import PySem.Challenge.RW_easelroom_k72_ties_and_claims_at_numbers
set_option Elab.async false
set_option linter.all false
set_option maxRecDepth 100000
/-! Dn0: a small language of values: what a def of the program does to data, with slots, errors and loops; no machine in sight. -/
namespace Dn
open PySem

abbrev D := PyData

/-- a slot of a def's frame: not assigned; a value that never changes; an object that this frame alone may change (true: made here) -/
inductive Slot where
  | un
  | val (d : D)
  | own (k : Bool) (d : D)
abbrev Env := List Slot

/-- an error: its class, its fields -/
structure Exn where
  cls : Str
  fs : List (Str × D)

inductive R (α : Type) where
  | ok (a : α) (ρ : Env)
  | exc (x : Exn) (ρ : Env)
  | stuck
abbrev M (α : Type) := Env → R α

def R.next {α β : Type} (r : R α) (f : α → M β) : R β :=
  match r with
  | .ok a ρ => f a ρ
  | .exc x ρ => .exc x ρ
  | .stuck => .stuck
def bnd {α β : Type} (m : M α) (f : α → M β) : M β := fun ρ => (m ρ).next f
def ret {α : Type} (a : α) : M α := fun ρ => .ok a ρ
def lift {α : Type} (o : Option α) : M α := fun ρ => match o with
  | some a => .ok a ρ
  | none => .stuck

/-- an operand: a value, or what stands in a slot that owns -/
inductive Opd where
  | val (d : D)
  | bor (i : Nat)
/-- a list or a dict -/
def objD : D → Bool
  | .list _ => true
  | .dict _ => true
  | _ => false
def readOwn (i : Nat) (ρ : Env) : Option D := match ρ[i]? with
  | some (.own _ d) => if objD d then some d else none
  | _ => none
theorem readOwn_some {i : Nat} {ρ : Env} {d : D} (h : readOwn i ρ = some d) : ∃ k, ρ[i]? = some (.own k d) ∧ objD d = true := by
  unfold readOwn at h
  split at h
  · rename_i k d' hs
    split at h
    · rename_i ho
      cases h
      exact ⟨k, hs, ho⟩
    · cases h
  · cases h
def res (o : Opd) : M D := fun ρ => match o with
  | .val d => .ok d ρ
  | .bor i => lift (readOwn i ρ) ρ
/-- a value that stays -/
def stab (o : Opd) : M D := fun ρ => match o with
  | .val d => .ok d ρ
  | .bor _ => .stuck
def stay (m : M Opd) : M D := bnd m stab

def c (d : D) : M Opd := ret (.val d)
def readVal (i : Nat) (ρ : Env) : Option D := match ρ[i]? with
  | some (.val d) => some d
  | _ => none
def v (i : Nat) : M Opd := fun ρ => lift ((readVal i ρ).map Opd.val) ρ
def b (i : Nat) : M Opd := fun ρ => match readOwn i ρ with
  | some _ => .ok (.bor i) ρ
  | none => .stuck
def isSeq : D → Bool
  | .list _ => true
  | _ => false
/-- what a slot owns is let go: from now on it never changes -/
def frz (i : Nat) : M Opd := fun ρ => match ρ[i]? with
  | some (.own true d) => if isSeq d then .ok (.val d) (ρ.set i (.val d)) else .stuck
  | _ => .stuck

def e1 (g : D → Option D) (m : M Opd) : M Opd := bnd m fun o => bnd (res o) fun d => bnd (lift (g d)) fun r => ret (.val r)
def e2 (g : D → D → Option D) (m n : M Opd) : M Opd :=
  bnd m fun o => bnd n fun p => bnd (res o) fun d => bnd (res p) fun e => bnd (lift (g d e)) fun r => ret (.val r)

/-! tests -/
def asB : D → Option Bool
  | .bool x => some x
  | _ => none
def tst (m : M Opd) : M Bool := bnd m fun o => bnd (res o) fun d => lift (asB d)
def andT (s t : M Bool) : M Bool := bnd s fun x => if x then t else ret false
def orT (s t : M Bool) : M Bool := bnd s fun x => if x then ret true else t
def notT (s : M Bool) : M Bool := bnd s fun x => ret (!x)
def andV (s t : M Opd) : M Opd := bnd (tst s) fun x => if x then t else c (.bool false)
def orV (s t : M Opd) : M Opd := bnd (tst s) fun x => if x then c (.bool true) else t
def notV (s : M Opd) : M Opd := bnd (tst s) fun x => c (.bool (!x))
def iteV (t : M Bool) (m n : M Opd) : M Opd := bnd t fun x => if x then m else n
/-- a < b < c -/
def chain (g h : D → D → Option D) (m n k : M Opd) : M Opd :=
  bnd m fun o => bnd n fun p => bnd (res o) fun d => bnd (res p) fun e => bnd (lift (g d e)) fun r => bnd (lift (asB r)) fun x =>
    if x then bnd k fun q => bnd (res p) fun e' => bnd (res q) fun f => bnd (lift (h e' f)) fun r => ret (.val r) else c (.bool false)

/-! rows of operands -/
def ops : List (M Opd) → M (List Opd)
  | [] => ret []
  | m :: ms => bnd m fun o => bnd (ops ms) fun os => ret (o :: os)
def stabs : List Opd → M (List D)
  | [] => ret []
  | o :: os => bnd (stab o) fun d => bnd (stabs os) fun ds => ret (d :: ds)
def ress : List Opd → M (List D)
  | [] => ret []
  | o :: os => bnd (res o) fun d => bnd (ress os) fun ds => ret (d :: ds)
def tup (ms : List (M Opd)) : M Opd := bnd (ops ms) fun os => bnd (stabs os) fun ds => ret (.val (.tuple ds))
def lst (ms : List (M Opd)) : M Opd := bnd (ops ms) fun os => bnd (stabs os) fun ds => ret (.val (.list ds))
/-- a built-in function of values -/
def eN (g : List D → Option D) (ms : List (M Opd)) : M Opd := bnd (ops ms) fun os => bnd (ress os) fun ds => bnd (lift (g ds)) fun r => ret (.val r)

/-! statements -/
inductive Fl where
  | next (ρ : Env)
  | brk (ρ : Env)
  | cont (ρ : Env)
  | rt (d : D) (ρ : Env)
  | exc (x : Exn) (ρ : Env)
  | stuck
abbrev S := Env → Fl
def R.fl {α : Type} (r : R α) (f : α → S) : Fl := match r with
  | .ok a ρ => f a ρ
  | .exc x ρ => .exc x ρ
  | .stuck => .stuck
def exe {α : Type} (m : M α) (f : α → S) : S := fun ρ => (m ρ).fl f
def skip : S := fun ρ => .next ρ
def seq (s t : S) : S := fun ρ => match s ρ with
  | .next ρ' => t ρ'
  | f => f
def setV (i : Nat) (m : M Opd) : S := exe m fun o => exe (stab o) fun d => fun ρ => .next (ρ.set i (.val d))
/-- a new object, owned by the slot -/
def setO (i : Nat) (m : M Opd) : S := exe m fun o => exe (stab o) fun d => fun ρ => .next (ρ.set i (.own true d))
def drop (m : M Opd) : S := exe m fun _ => skip
def retS (m : M Opd) : S := exe m fun o => exe (stab o) fun d => fun ρ => .rt d ρ
/-- an own object is handed back -/
def retO (i : Nat) : S := fun ρ => match ρ[i]? with
  | some (.own true d) => .rt d ρ
  | _ => .stuck
def ifS (t : M Bool) (s u : S) : S := exe t fun x => if x then s else u
def brkS : S := fun ρ => .brk ρ
def contS : S := fun ρ => .cont ρ
def raiseS (x : Exn) : S := fun ρ => .exc x ρ

/-! targets -/
inductive Tg where
  | nm (j : Nat)
  | tp (js : List Nat)
def items : D → Option (List D)
  | .list ds => some ds
  | .tuple ds => some ds
  | .dict [(.none, .tuple ds)] => some ds
  | _ => none
def putAll : List Nat → List D → Env → Option Env
  | [], [], ρ => some ρ
  | j :: js, d :: ds, ρ => putAll js ds (ρ.set j (.val d))
  | _, _, _ => none
def tg : Tg → D → Env → Option Env
  | .nm j, d, ρ => some (ρ.set j (.val d))
  | .tp js, d, ρ => (items d).bind fun ds => putAll js ds ρ
def setT (t : Tg) (m : M Opd) : S := exe m fun o => exe (res o) fun d => fun ρ => match tg t d ρ with
  | some ρ' => .next ρ'
  | none => .stuck

/-! loops: over n items, the k-th told by the frame as it stands; behind the last one the frame must be as fin asks -/
abbrev Item := Nat → Env → Option D
def forN (it : Item) (fin : Env → Bool) (t : Tg) (body : S) : Nat → Nat → S
  | 0, _ => fun ρ => if fin ρ then .next ρ else .stuck
  | r + 1, k => fun ρ => match it k ρ with
    | none => .stuck
    | some d => match tg t d ρ with
      | none => .stuck
      | some ρ1 => match body ρ1 with
        | .next ρ2 => forN it fin t body r (k + 1) ρ2
        | .cont ρ2 => forN it fin t body r (k + 1) ρ2
        | .brk ρ2 => .next ρ2
        | f => f
def ofL (ds : List D) : Item := fun k _ => ds[k]?
def always : Env → Bool := fun _ => true
def forI (im : M (List D)) (t : Tg) (body : S) : S := exe im fun ds => forN (ofL ds) always t body ds.length 0
/-- over what a slot owns; the body leaves its length -/
def ofB (i n : Nat) : Item := fun k ρ => match ρ[i]? with
  | some (.own false (.list ds)) => if ds.length = n then ds[k]? else none
  | _ => none
def okB (i n : Nat) (ρ : Env) : Bool := match ρ[i]? with
  | some (.own false (.list ds)) => decide (ds.length = n)
  | _ => false
/-- a slot's object is lent out, and comes back -/
def backB (i : Nat) (k : Bool) (ρ : Env) : Option Env := match ρ[i]? with
  | some (.own false d) => some (ρ.set i (.own k d))
  | _ => none
def Fl.map (f : Fl) (g : Env → Option Env) : Fl := match f with
  | .next ρ => (g ρ).elim .stuck .next
  | .brk ρ => (g ρ).elim .stuck .brk
  | .cont ρ => (g ρ).elim .stuck .cont
  | .rt d ρ => (g ρ).elim .stuck (.rt d)
  | .exc x ρ => (g ρ).elim .stuck (.exc x)
  | .stuck => .stuck
def forB (i : Nat) (t : Tg) (body : S) : S := fun ρ => match ρ[i]? with
  | some (.own k (.list ds)) => (forN (ofB i ds.length) (okB i ds.length) t body ds.length 0 (ρ.set i (.own false (.list ds)))).map (backB i k)
  | _ => .stuck

def whileF (t : M Bool) (s : S) : Nat → Env → Option Fl
  | 0, _ => none
  | n + 1, ρ => match t ρ with
    | .ok true ρ1 => match s ρ1 with
      | .next ρ2 => whileF t s n ρ2
      | .cont ρ2 => whileF t s n ρ2
      | .brk ρ2 => some (.next ρ2)
      | f => some f
    | .ok false ρ1 => some (.next ρ1)
    | .exc x ρ1 => some (.exc x ρ1)
    | .stuck => some .stuck
open Classical in
noncomputable def whileS (t : M Bool) (s : S) : S := fun ρ =>
  if h : ∃ n f, whileF t s n ρ = some f then Classical.choose (Classical.choose_spec h) else .stuck
theorem whileF_mono {t : M Bool} {s : S} : ∀ {n : Nat} {ρ : Env} {f : Fl} (k : Nat), whileF t s n ρ = some f → whileF t s (n + k) ρ = some f
  | 0, _, _, _, h => by simp [whileF] at h
  | n + 1, ρ, f, k, h => by
    rw [show n + 1 + k = (n + k) + 1 by omega]
    unfold whileF at h ⊢
    cases ht : t ρ with
    | ok x ρ1 =>
      rw [ht] at h
      cases x with
      | true =>
        simp only at h ⊢
        cases hs : s ρ1 with
        | next ρ2 => rw [hs] at h; exact whileF_mono k h
        | cont ρ2 => rw [hs] at h; exact whileF_mono k h
        | brk ρ2 => rw [hs] at h; exact h
        | rt d ρ2 => rw [hs] at h; exact h
        | exc x ρ2 => rw [hs] at h; exact h
        | stuck => rw [hs] at h; exact h
      | false => exact h
    | exc x ρ1 => rw [ht] at h; exact h
    | stuck => rw [ht] at h; exact h
theorem whileF_det {t : M Bool} {s : S} {n m : Nat} {ρ : Env} {f g : Fl} (h : whileF t s n ρ = some f) (h' : whileF t s m ρ = some g) : f = g := by
  have a := whileF_mono m h
  have b := whileF_mono n h'
  rw [Nat.add_comm m n, a] at b
  exact Option.some.inj b
theorem whileS_of {t : M Bool} {s : S} {n : Nat} {ρ : Env} {f : Fl} (h : whileF t s n ρ = some f) : whileS t s ρ = f := by
  unfold whileS
  have hh : ∃ n f, whileF t s n ρ = some f := ⟨n, f, h⟩
  rw [dif_pos hh]
  exact whileF_det (Classical.choose_spec (Classical.choose_spec hh)) h
theorem whileS_ne {t : M Bool} {s : S} {ρ : Env} (h : whileS t s ρ ≠ .stuck) : ∃ n, whileF t s n ρ = some (whileS t s ρ) := by
  by_cases hh : ∃ n f, whileF t s n ρ = some f
  · obtain ⟨n, f, e⟩ := hh
    exact ⟨n, by rw [whileS_of e]; exact e⟩
  · refine absurd ?_ h
    unfold whileS
    rw [dif_neg hh]
/-- one turn of a while -/
theorem whileS_eq (t : M Bool) (s : S) (ρ : Env) : whileS t s ρ = match t ρ with
    | .ok true ρ1 => (match s ρ1 with
      | .next ρ2 => whileS t s ρ2
      | .cont ρ2 => whileS t s ρ2
      | .brk ρ2 => .next ρ2
      | f => f)
    | .ok false ρ1 => .next ρ1
    | .exc x ρ1 => .exc x ρ1
    | .stuck => .stuck := by
  have up : ∀ ρ2 : Env, (∀ n, whileF t s (n + 1) ρ = whileF t s n ρ2) → whileS t s ρ = whileS t s ρ2 := fun ρ2 e => by
    by_cases hh : ∃ n f, whileF t s n ρ2 = some f
    · obtain ⟨n, f, q⟩ := hh
      rw [whileS_of q]
      exact whileS_of (n := n + 1) (by rw [e]; exact q)
    · have h1 : ¬ ∃ n f, whileF t s n ρ = some f := fun ⟨n, f, q⟩ => by
        cases n with
        | zero => simp [whileF] at q
        | succ n => rw [e] at q; exact hh ⟨n, f, q⟩
      unfold whileS
      rw [dif_neg hh, dif_neg h1]
  cases ht : t ρ with
  | ok x ρ1 =>
    cases x with
    | true =>
      simp only
      cases hs : s ρ1 with
      | next ρ2 => exact up ρ2 fun n => by rw [whileF, ht]; simp only [hs]
      | cont ρ2 => exact up ρ2 fun n => by rw [whileF, ht]; simp only [hs]
      | brk ρ2 => exact whileS_of (n := 1) (by rw [whileF, ht]; simp only [hs])
      | rt d ρ2 => exact whileS_of (n := 1) (by rw [whileF, ht]; simp only [hs])
      | exc x ρ2 => exact whileS_of (n := 1) (by rw [whileF, ht]; simp only [hs])
      | stuck => exact whileS_of (n := 1) (by rw [whileF, ht]; simp only [hs])
    | false => exact whileS_of (n := 1) (by rw [whileF, ht])
  | exc x ρ1 => exact whileS_of (n := 1) (by rw [whileF, ht])
  | stuck => exact whileS_of (n := 1) (by rw [whileF, ht])

/-! comprehensions: their names are their own -/
def wipeD (ρ : Env) : List Nat → Env
  | [] => ρ
  | j :: js => (wipeD ρ js).set j .un
/-- the names of the frame come back -/
def backD (ρ ρ' : Env) : List Nat → Env
  | [] => ρ'
  | j :: js => (backD ρ ρ' js).set j (match ρ[j]? with
    | some (.val d) => .val d
    | _ => .un)
def lcN (it : Item) (fin : Env → Bool) (t : Tg) (js : List Nat) (ts : M Bool) (el : M Opd) : Nat → Nat → List D → M (List D)
  | 0, _, acc => fun ρ => if fin ρ then .ok acc ρ else .stuck
  | r + 1, k, acc => fun ρ => match it k ρ with
    | none => .stuck
    | some d => match tg t d ρ with
      | none => .stuck
      | some ρ1 => (ts ρ1).next fun x => if x
        then fun ρ2 => ((bnd el stab) ρ2).next (fun y ρ3 => lcN it fin t js ts el r (k + 1) (acc ++ [y]) (wipeD ρ3 js))
        else fun ρ2 => lcN it fin t js ts el r (k + 1) acc (wipeD ρ2 js)
def R.map {α : Type} (r : R α) (g : Env → Option Env) : R α := match r with
  | .ok a ρ => (g ρ).elim .stuck (.ok a)
  | .exc x ρ => (g ρ).elim .stuck (.exc x)
  | .stuck => .stuck
/-- no error leaves the block -/
def lcO (it : Item) (fin : Env → Bool) (t : Tg) (js : List Nat) (ts : M Bool) (el : M Opd) (n : Nat) : M Opd := fun ρ =>
  if n ≤ 100000 then match lcN it fin t js ts el n 0 [] (wipeD ρ js) with
    | .ok rs ρ' => .ok (.val (.list rs)) (backD ρ ρ' js)
    | _ => .stuck
  else .stuck
def lcI (im : M (List D)) (t : Tg) (js : List Nat) (ts : M Bool) (el : M Opd) : M Opd := bnd im fun ds => lcO (ofL ds) always t js ts el ds.length
def lcB (i : Nat) (t : Tg) (js : List Nat) (ts : M Bool) (el : M Opd) : M Opd := fun ρ => match ρ[i]? with
  | some (.own k (.list ds)) => (lcO (ofB i ds.length) (okB i ds.length) t js ts el ds.length (ρ.set i (.own false (.list ds)))).map (backB i k)
  | _ => .stuck

/-! defs -/
inductive FR where
  | ok (d : D) (outs : List D)
  | exc (x : Exn) (outs : List D)
  | stuck
abbrev FD := List D → FR
def entry : List Bool → List D → Env
  | k :: ks, d :: ds => (if k then .own false d else .val d) :: entry ks ds
  | _, _ => []
def outsOf : List Bool → Env → Option (List D)
  | [], _ => some []
  | false :: ks, _ :: ρ => outsOf ks ρ
  | true :: ks, .own false d :: ρ => (outsOf ks ρ).map (d :: ·)
  | _, _ => none
def finD (ks : List Bool) (md : Bool) (f : Fl) : FR := match f with
  | .rt d ρ => (outsOf ks ρ).elim .stuck (.ok d)
  | .next ρ => if md then .stuck else (outsOf ks ρ).elim .stuck (.ok .none)
  | .exc x ρ => (outsOf ks ρ).elim .stuck (.exc x)
  | _ => .stuck
/-- a def of more further names, by its body -/
def runD (ks : List Bool) (md : Bool) (more : Nat) (body : S) : FD := fun ds =>
  if ds.length = ks.length then finD ks md (body (entry ks ds ++ List.replicate more .un)) else .stuck
mutual
/-- no list within -/
def imm : D → Bool
  | .tuple ds => imms ds
  | .list _ => false
  | .dict _ => false
  | _ => true
def imms : List D → Bool
  | [] => true
  | d :: ds => imm d && imms ds
end
/-- what a slot owns, when only its own things must be without lists -/
def immO : D → Bool
  | .list ds => imms ds
  | .tuple ds => imms ds
  | .dict ps => ps.all fun p => imm p.2
  | _ => false
def vals : List D → List (M Opd)
  | [] => []
  | d :: ds => Dn.c d :: vals ds
/-- what an argument gives, and whether it is lent -/
def argD (ρ : Env) (k : Bool) (o : Opd) : Option D := match o with
  | .val d => if k then none else some d
  | .bor i => match readOwn i ρ with
    | some d => if k then some d else if isSeq d then some d else none
    | none => none
def argDs (ρ : Env) : List Bool → List Opd → Option (List D)
  | [], [] => some []
  | k :: ks, o :: os => (argD ρ k o).bind fun d => (argDs ρ ks os).map (d :: ·)
  | _, _ => none
/-- the slots that are lent to be read -/
def lent : List Bool → List Opd → List Nat
  | false :: ks, .bor i :: os => i :: lent ks os
  | _ :: ks, _ :: os => lent ks os
  | _, _ => []
/-- the slot that is lent to be changed -/
def chg : List Bool → List Opd → List Nat
  | true :: ks, .bor i :: os => i :: chg ks os
  | _ :: ks, _ :: os => chg ks os
  | _, _ => []
def putOut (ρ : Env) : List Nat → List D → Option Env
  | [], [] => some ρ
  | [i], [d] => match ρ[i]? with
    | some (.own k _) => some (ρ.set i (.own k d))
    | _ => none
  | _, _ => none
/-- at most one slot is lent to be changed, and it is not lent to be read as well -/
def okC (ks : List Bool) (os : List Opd) : Bool := decide ((chg ks os).length ≤ 1) && (chg ks os).all fun i => !(lent ks os).contains i
/-- what comes back does not hold what was lent to be read -/
def okOut (ks : List Bool) (os : List Opd) (here : Bool) (outs : List D) : Bool := (lent ks os).isEmpty || (here && outs.all immO)
def callO (f : FD) (ks : List Bool) (md : Bool) (os : List Opd) : M Opd := fun ρ =>
  match argDs ρ ks os with
  | none => .stuck
  | some ds => if okC ks os = true then match f ds with
      | .ok d outs => if okOut ks os (if md then immO d else imm d) outs = true then (putOut ρ (chg ks os) outs).elim .stuck fun ρ' => .ok (.val d) ρ' else .stuck
      | .exc x outs => if okOut ks os (x.fs.all fun p => imm p.2) outs = true then (putOut ρ (chg ks os) outs).elim .stuck fun ρ' => .exc x ρ' else .stuck
      | .stuck => .stuck
    else .stuck
def callM (f : FD) (ks : List Bool) (md : Bool) (ms : List (M Opd)) : M Opd := bnd (ops ms) (callO f ks md)

/-! changes of what a slot owns -/
def mutO (g : D → Option D) (i : Nat) : S := fun ρ => match ρ[i]? with
  | some (.own k d) => match g d with
    | some d' => .next (ρ.set i (.own k d'))
    | none => .stuck
  | _ => .stuck
def appD (x : D) : D → Option D
  | .list ds => if ds.length < 1000000 then some (.list (ds ++ [x])) else none
  | _ => none
def chkL (i : Nat) : M Unit := fun ρ => match readOwn i ρ with
  | some (.list _) => .ok () ρ
  | _ => .stuck
/-- x.append(e) -/
def append (i : Nat) (m : M Opd) : S := exe (chkL i) fun _ => exe m fun o => exe (stab o) fun d => mutO (appD d) i
/-- a place of a list, counted from behind if below 0 -/
def place (n : Nat) (i : Int) : Option Nat := if 0 ≤ i then (if i < n then some i.toNat else none) else if -(n : Int) ≤ i then some (i + n).toNat else none
def setD (k x : D) : D → Option D
  | .list ds => match k with
    | .int i => (place ds.length i).map fun j => .list (ds.set j x)
    | _ => none
  | _ => none
/-- x[i] = e -/
def setIx (i : Nat) (mi m : M Opd) : S := exe m fun o => exe (stab o) fun d => exe (chkL i) fun _ => exe mi fun p => exe (res p) fun k => mutO (setD k d) i
end Dn


/-! Dn1: what it means that the machine's frame and heap are a frame of values. -/
namespace Dn
open PySem L2

def Ex (H H' : Hp) : Prop := ∀ a o, H a = some o → H' a = some o
theorem Ex.refl (H : Hp) : Ex H H := fun _ _ h => h
theorem Ex.trans {H H1 H2 : Hp} (a : Ex H H1) (b : Ex H1 H2) : Ex H H2 := fun x o h => b x o (a x o h)
theorem Ex.new {H : Hp} {p : Addr} {o : HO} (h : H p = none) : Ex H (upd H p o) := fun a u e => by
  rw [upd_ne (ne_of_none e h)]
  exact e
theorem Ex.mut {H H' : Hp} {p : Addr} {o : HO} (e : Ex H H') (h : H p = none) : Ex H (upd H' p o) := fun a u ha => by
  rw [upd_ne (ne_of_none ha h)]
  exact e a u ha
theorem Ex.free {H H' : Hp} {p : Addr} (e : Ex H H') (h : H' p = none) : H p = none := by
  cases h1 : H p with
  | none => rfl
  | some o =>
    rw [e p o h1] at h
    cases h

/-- what the whole proof knows: the written part, which data a written tuple may be, the classes of errors -/
structure Kc where
  K : PySem.W.Frag
  kc : D → Bool
  cls : Str → Option Value

def KTup (K : PySem.W.Frag) (a : Addr) (xs : List V) : Prop :=
  ∃ (o : Obj) (its : Array Value) (n : Nat), K.lookup a = some o ∧ o.cls = .type "tuple" ∧ o.data = .seq its n ∧ its.size ≤ sizeLine ∧ Vals xs its.toList

/-- a tuple of which is known that it has no names of its own, as data: sum ds -/
abbrev fzD (ds : List D) : D := .dict [(.none, .tuple ds)]
mutual
/-- the data with each such tuple as a plain one -/
def er : D → D
  | .list xs => .list (ers xs)
  | .tuple xs => .tuple (ers xs)
  | .dict ps => erp ps
  | d => d
def ers : List D → List D
  | [] => []
  | d :: ds => er d :: ers ds
def erp : List (D × D) → D
  | [(.none, .tuple ds)] => .tuple (ers ds)
  | ps => .dict ps
end
theorem er_tup (ds : List D) : er (.tuple ds) = .tuple (ers ds) := by simp [er]
theorem er_lst (ds : List D) : er (.list ds) = .list (ers ds) := by simp [er]
theorem er_sum (ds : List D) : er (fzD ds) = .tuple (ers ds) := by simp [er, erp]
theorem ers_nil : ers [] = [] := by simp [ers]
theorem ers_cons (d : D) (ds : List D) : ers (d :: ds) = er d :: ers ds := by simp [ers]
theorem ers_map (ds : List D) : ers ds = ds.map er := by
  induction ds with
  | nil => exact ers_nil
  | cons d ds ih => rw [ers_cons, ih, List.map_cons]
/-- a tuple of the heap without names of its own -/
def FzT (G : Hp) (a : Addr) (xs : List V) : Prop := ∃ ob : Obj, G a = some (.frz ob (.tup xs)) ∧ ob.cls = .type "tuple" ∧ ob.dict = none
mutual
/-- the value is that data, as long as G stands -/
inductive Rep (c : Kc) (G : Hp) : V → D → Prop
  | non : Rep c G .non .none
  | bl (b : Bool) : Rep c G (.bl b) (.bool b)
  | int (i : Int) : Rep c G (.int i) (.int i)
  | str (x : Str) : Rep c G (.str x) (.str x)
  | lst {a : Addr} {xs : List V} {ds : List D} : SqL c.K G a xs → RepA c G xs ds → Rep c G (.ref a) (.list ds)
  | tup {a : Addr} {xs : List V} {ds : List D} : G a = some (.tup xs) → RepA c G xs ds → Rep c G (.ref a) (.tuple ds)
  | ktup {a : Addr} {xs : List V} {ds : List D} : KTup c.K a xs → RepA c G xs ds → c.kc (.tuple ds) = true → Rep c G (.ref a) (.tuple ds)
  | sm {a : Addr} {xs : List V} {ds : List D} : FzT G a xs → RepA c G xs ds → Rep c G (.ref a) (fzD ds)
inductive RepA (c : Kc) (G : Hp) : List V → List D → Prop
  | nil : RepA c G [] []
  | cons {v : V} {vs : List V} {d : D} {ds : List D} : Rep c G v d → RepA c G vs ds → RepA c G (v :: vs) (d :: ds)
end

theorem sqEx {K : PySem.W.Frag} {H H' : Hp} {a : Addr} {xs : List V} (e : Ex H H') (h : SqL K H a xs) : SqL K H' a xs := by
  rcases h with (h | ⟨o, h⟩) | h
  · exact .inl (.inl (e _ _ h))
  · exact .inl (.inr ⟨o, e _ _ h⟩)
  · exact .inr h
theorem FzT.ex {H H' : Hp} {a : Addr} {xs : List V} (e : Ex H H') (h : FzT H a xs) : FzT H' a xs := let ⟨o, h1, h2⟩ := h; ⟨o, e _ _ h1, h2⟩
theorem FzT.sq {K : PySem.W.Frag} {H : Hp} {a : Addr} {xs : List V} (h : FzT H a xs) : SqT K H a xs := let ⟨o, h1, _⟩ := h; .inl (.inr ⟨o, h1⟩)
section
variable {c : Kc} {G G' : Hp}
mutual
theorem Rep.mono (e : Ex G G') : ∀ {v : V} {d : D}, Rep c G v d → Rep c G' v d
  | _, _, .non => .non
  | _, _, .bl b => .bl b
  | _, _, .int i => .int i
  | _, _, .str x => .str x
  | _, _, .lst h a => .lst (sqEx e h) (a.mono e)
  | _, _, .tup h a => .tup (e _ _ h) (a.mono e)
  | _, _, .ktup h a k => .ktup h (a.mono e) k
  | _, _, .sm h a => .sm (h.ex e) (a.mono e)
theorem RepA.mono (e : Ex G G') : ∀ {vs : List V} {ds : List D}, RepA c G vs ds → RepA c G' vs ds
  | _, _, .nil => .nil
  | _, _, .cons h a => .cons (h.mono e) (a.mono e)
end
mutual
theorem Rep.dp : ∀ {v : V} {d : D}, Rep c G v d → Dp c.K G v (er d)
  | _, _, .non => .non
  | _, _, .bl b => .bl b
  | _, _, .int i => .int i
  | _, _, .str x => .str x
  | _, _, .lst h a => by rw [er_lst]; exact .lst h a.dp
  | _, _, .tup h a => by rw [er_tup]; exact .tup (.inl (.inl h)) a.dp
  | _, _, .ktup h a _ => by rw [er_tup]; exact .tup (.inr h) a.dp
  | _, _, .sm h a => by rw [er_sum]; exact .tup h.sq a.dp
theorem RepA.dp : ∀ {vs : List V} {ds : List D}, RepA c G vs ds → DpAll c.K G vs (ers ds)
  | _, _, .nil => by rw [ers_nil]; exact .nil
  | _, _, .cons h a => by rw [ers_cons]; exact .cons h.dp a.dp
end
theorem RepA.length : ∀ {vs : List V} {ds : List D}, RepA c G vs ds → vs.length = ds.length
  | _, _, .nil => rfl
  | _, _, .cons _ a => by rw [List.length_cons, List.length_cons, a.length]
theorem RepA.get : ∀ {vs : List V} {ds : List D} {i : Nat} {d : D}, RepA c G vs ds → ds[i]? = some d → ∃ v, vs[i]? = some v ∧ Rep c G v d
  | _, _, i, d, .nil, e => by simp at e
  | _, _, 0, d, .cons h _, e => by simp at e; subst e; exact ⟨_, rfl, h⟩
  | _, _, i + 1, d, .cons _ a, e => by
    obtain ⟨v, h1, h2⟩ := RepA.get (i := i) (d := d) a (by simpa using e)
    exact ⟨v, by simpa using h1, h2⟩
theorem RepA.get' : ∀ {vs : List V} {ds : List D} {i : Nat} {v : V}, RepA c G vs ds → vs[i]? = some v → ∃ d, ds[i]? = some d ∧ Rep c G v d
  | _, _, i, d, .nil, e => by simp at e
  | _, _, 0, d, .cons h _, e => by simp at e; subst e; exact ⟨_, rfl, h⟩
  | _, _, i + 1, v, .cons _ a, e => by
    obtain ⟨d, h1, h2⟩ := RepA.get' (i := i) (v := v) a (by simpa using e)
    exact ⟨d, by simpa using h1, h2⟩
theorem RepA.append : ∀ {vs ws : List V} {ds es : List D}, RepA c G vs ds → RepA c G ws es → RepA c G (vs ++ ws) (ds ++ es)
  | _, _, _, _, .nil, h => h
  | _, _, _, _, .cons h a, k => .cons h (a.append k)
theorem RepA.one {v : V} {d : D} (h : Rep c G v d) : RepA c G [v] [d] := .cons h .nil
theorem RepA.take : ∀ {vs : List V} {ds : List D} (n : Nat), RepA c G vs ds → RepA c G (vs.take n) (ds.take n)
  | _, _, 0, _ => .nil
  | _, _, _ + 1, .nil => .nil
  | _, _, n + 1, .cons h a => .cons h (a.take n)
theorem RepA.drop : ∀ {vs : List V} {ds : List D} (n : Nat), RepA c G vs ds → RepA c G (vs.drop n) (ds.drop n)
  | _, _, 0, h => h
  | _, _, _ + 1, .nil => .nil
  | _, _, n + 1, .cons _ a => a.drop n
theorem RepA.set {v : V} {d : D} (r : Rep c G v d) : ∀ {vs : List V} {ds : List D} (i : Nat), RepA c G vs ds → RepA c G (vs.set i v) (ds.set i d)
  | _, _, _, .nil => .nil
  | _, _, 0, .cons _ a => .cons r a
  | _, _, i + 1, .cons h a => .cons h (a.set r i)
theorem RepA.rev {vs : List V} {ds : List D} (h : RepA c G vs ds) : RepA c G vs.reverse ds.reverse := by
  have aux : ∀ (vs : List V) {ds : List D} {ws : List V} {es : List D}, RepA c G vs ds → RepA c G ws es → RepA c G (vs.reverseAux ws) (ds.reverseAux es) := by
    intro vs
    induction vs with
    | nil => intro ds ws es h; cases h; exact fun k => k
    | cons v vs ih => intro ds ws es h; cases h with | cons h1 h2 => exact fun k => (by have z := ih h2 (RepA.cons h1 k); exact z)
  exact aux _ h .nil
theorem RepA.erase : ∀ {vs : List V} {ds : List D} (i : Nat), RepA c G vs ds → RepA c G (vs.eraseIdx i) (ds.eraseIdx i)
  | _, _, _, .nil => .nil
  | _, _, 0, .cons _ a => a
  | _, _, i + 1, .cons h a => .cons h (a.erase i)
end

/-- a key as data -/
def keyD : Key → D
  | .inl i => .int i
  | .inr x => .str x
/-- what an object holds, as data -/
def OD (c : Kc) (G : Hp) : HO → D → Prop
  | .lst xs, .list ds => RepA c G xs ds
  | .tup xs, .tuple ds => RepA c G xs ds
  | .dK kvs, .dict ps => Paired (fun (kv : Key × V) (p : D × D) => p.1 = keyD kv.1 ∧ Rep c G kv.2 p.2) kvs ps
  | .dT kvs, .dict ps => ∃ qs, ps = (.none, .none) :: qs ∧ Paired (fun (kv : List Key × V) (p : D × D) => p.1 = .tuple (kv.1.map keyD) ∧ Rep c G kv.2 p.2) kvs qs
  | _, _ => False
theorem od_no {c : Kc} {G : Hp} {o : HO} {ps : List (D × D)} (h : OD c G o (.dict ps)) (ds : List D) : ps ≠ [(.none, .tuple ds)] := fun e => by
  subst e
  cases o with
  | dK kvs =>
    have h2 : Paired (fun (kv : Key × V) (p : D × D) => p.1 = keyD kv.1 ∧ Rep c G kv.2 p.2) kvs [(.none, .tuple ds)] := h
    cases h2 with
    | @cons kv _ _ _ h3 _ =>
      have h4 : PyData.none = keyD kv.1 := h3.1
      cases hk : kv.1 <;> (rw [hk] at h4; cases h4)
  | dT kvs =>
    obtain ⟨qs, e, _⟩ := (show ∃ qs, [(PyData.none, PyData.tuple ds)] = (PyData.none, PyData.none) :: qs ∧ Paired (fun (kv : List Key × V) (p : D × D) => p.1 = .tuple (kv.1.map keyD) ∧ Rep c G kv.2 p.2) kvs qs from h)
    cases e
  | _ => exact (show False from h).elim
theorem OD.mono {c : Kc} {G G' : Hp} (e : Ex G G') {o : HO} {d : D} (h : OD c G o d) : OD c G' o d := by
  cases o <;> cases d <;> first
    | exact (show False from h).elim
    | exact RepA.mono e (show RepA c G _ _ from h)
    | exact Paired.mapP (show Paired _ _ _ from h) fun _ _ z => ⟨z.1, z.2.mono e⟩
    | exact (fun ⟨qs, h1, h2⟩ => ⟨qs, h1, Paired.mapP h2 fun _ _ z => ⟨z.1, z.2.mono e⟩⟩ : (∃ qs, _ = _ :: qs ∧ Paired _ _ qs) → ∃ qs, _ = _ :: qs ∧ Paired _ _ qs) h

/-- a frame's surroundings: B stays as it is; X never comes into what is known; N: not there when the frame began; io: whose objects may be changed for the caller -/
structure Fr where
  B : Hp
  X : Addr → Prop
  N : Addr → Prop
  io : Nat → Option Addr

def SlotOk (c : Kc) (F : Fr) (G H : Hp) (i : Nat) : Slot → Option V → Prop
  | .un, _ => True
  | .val d, some x => Rep c G x d
  | .own k d, some (.ref a) => G a = none ∧ F.B a = none ∧ ¬ F.X a ∧ (k = true → F.N a) ∧ (k = false → F.io i = some a) ∧ ∃ o, H a = some o ∧ OD c G o d
  | _, _ => False

/-- no tuple -/
def NT (o : HO) : Prop := ∀ ks : List Key, o ≠ .tup (ks.map kV)
structure Rel (c : Kc) (F : Fr) (ρ : Env) (σ : L2.St) (G H : Hp) : Prop where
  len : ρ.length = σ.length
  gh : Ex G H
  bh : Ex F.B H
  xg : ∀ a, F.X a → G a = none
  xh : ∀ a, F.X a → H a ≠ none
  nh : ∀ a, ¬ F.N a → H a ≠ none
  sl : ∀ (i : Nat) (s : Slot), ρ[i]? = some s → ∃ u, σ[i]? = some u ∧ SlotOk c F G H i s u
  dj : ∀ (i j : Nat) (k l : Bool) (d e : D) (a : Addr), i ≠ j → ρ[i]? = some (.own k d) → ρ[j]? = some (.own l e) → σ[i]? = some (some (.ref a)) → σ[j]? ≠ some (some (.ref a))
  tk : ∀ (b : Addr) (ks : List Key), H b = some (.tup (ks.map kV)) → G b = some (.tup (ks.map kV))

/-- a new object at p that no slot holds -/
structure Fresh (c : Kc) (F : Fr) (ρ : Env) (σ : L2.St) (G H : Hp) (p : Addr) (d : D) : Prop where
  g : G p = none
  b : F.B p = none
  x : ¬ F.X p
  n : F.N p
  o : ∃ o, H p = some o ∧ OD c G o d
  sl : ∀ (i : Nat) (k : Bool) (e : D), ρ[i]? = some (.own k e) → σ[i]? ≠ some (some (.ref p))

section
variable {c : Kc} {F : Fr} {ρ : Env} {σ : L2.St} {G H G' H' : Hp} {i : Nat} {d : D} {x : V} {p a : Addr} {o : HO}

theorem Rel.slot_val (R : Rel c F ρ σ G H) (h : ρ[i]? = some (.val d)) : ∃ x, σ[i]? = some (some x) ∧ Rep c G x d := by
  obtain ⟨u, e, q⟩ := R.sl i _ h
  cases u with
  | none => exact q.elim
  | some x => exact ⟨x, e, q⟩
theorem Rel.slot_own {k : Bool} (R : Rel c F ρ σ G H) (h : ρ[i]? = some (.own k d)) : ∃ a, σ[i]? = some (some (.ref a)) ∧ G a = none ∧ F.B a = none ∧ ¬ F.X a ∧ (k = true → F.N a) ∧ (k = false → F.io i = some a) ∧ ∃ o, H a = some o ∧ OD c G o d := by
  obtain ⟨u, e, q⟩ := R.sl i _ h
  cases u with
  | none => exact q.elim
  | some x =>
    cases x with
    | ref a => exact ⟨a, e, q⟩
    | _ => exact q.elim
theorem SlotOk.mono {s : Slot} {u : Option V} (h : SlotOk c F G H i s u) (e : Ex G G') (k : ∀ a, G a = none → H a ≠ none → G' a = none ∧ H' a = H a) : SlotOk c F G' H' i s u := by
  cases s with
  | un => trivial
  | val d =>
    cases u with
    | none => exact h.elim
    | some x => exact Rep.mono e h
  | own b d =>
    cases u with
    | none => exact h.elim
    | some x =>
      cases x with
      | ref a =>
        obtain ⟨h1, h2, h3, h4, h5, o, h6, h7⟩ := h
        obtain ⟨k1, k2⟩ := k a h1 (by rw [h6]; exact fun z => nomatch z)
        exact ⟨k1, h2, h3, h4, h5, o, k2.trans h6, h7.mono e⟩
      | _ => exact h.elim
/-- what is known grows, the heap grows -/
theorem Rel.grow (R : Rel c F ρ σ G H) (eg : Ex G G') (eh : Ex H H') (gh : Ex G' H') (k : ∀ a, G a = none → H a ≠ none → G' a = none) (tk : ∀ (b : Addr) (ks : List Key), H b = none → H' b = some (.tup (ks.map kV)) → G' b = some (.tup (ks.map kV))) : Rel c F ρ σ G' H' := by
  have up : ∀ {a}, H a ≠ none → H' a = H a := fun {a} q => by
    cases e : H a with
    | none => exact absurd e q
    | some o => exact eh a o e
  refine ⟨R.len, gh, R.bh.trans eh, fun a q => k a (R.xg a q) (R.xh a q), fun a q => ?_, fun a q => ?_, fun i s q => ?_, R.dj, fun b ks q => ?_⟩
  · rw [up (R.xh a q)]; exact R.xh a q
  · rw [up (R.nh a q)]; exact R.nh a q
  · obtain ⟨u, e, z⟩ := R.sl i s q
    exact ⟨u, e, z.mono eg fun a z1 z2 => ⟨k a z1 z2, up z2⟩⟩
  · cases e : H b with
    | none => exact tk b ks e q
    | some o => exact eg _ _ (R.tk b ks (by rw [← up (by rw [e]; exact fun z => nomatch z)]; exact q))
/-- a new object that is known -/
theorem Rel.new (R : Rel c F ρ σ G H) (h : H p = none) : Rel c F ρ σ (upd G p o) (upd H p o) := by
  have hg : G p = none := R.gh.free h
  refine R.grow (Ex.new hg) (Ex.new h) (fun a u e => ?_) (fun a q1 q2 => ?_) (fun b ks q1 q2 => ?_)
  · by_cases e1 : a = p
    · subst e1; rw [upd_same] at e ⊢; exact e
    · rw [upd_ne e1] at e ⊢; exact R.gh a u e
  · rw [upd_ne (fun z => q2 (by rw [z]; exact h))]; exact q1
  · by_cases e1 : b = p
    · subst e1; rw [upd_same] at q2 ⊢; exact q2
    · rw [upd_ne e1] at q2; rw [q1] at q2; cases q2
/-- a new object that is not told -/
theorem Rel.hid (R : Rel c F ρ σ G H) (h : H p = none) (nt : NT o) : Rel c F ρ σ G (upd H p o) :=
  R.grow (Ex.refl G) (Ex.new h) (R.gh.trans (Ex.new h)) (fun _ q _ => q) fun b ks q1 q2 => by
    by_cases e1 : b = p
    · subst e1; rw [upd_same] at q2; cases q2; exact absurd rfl (nt _)
    · rw [upd_ne e1] at q2; rw [q1] at q2; cases q2
theorem Rel.fresh (R : Rel c F ρ σ G H) (h : H p = none) (od : OD c G o d) : Fresh c F ρ σ G (upd H p o) p d where
  g := R.gh.free h
  b := R.bh.free h
  x := fun q => R.xh p q h
  n := Classical.byContradiction fun q => R.nh p q h
  o := ⟨o, upd_same, od⟩
  sl := fun i k e q z => by
    obtain ⟨a, h1, _, _, _, _, _, u, h2, _⟩ := R.slot_own q
    rw [h1] at z
    cases z
    rw [h] at h2
    cases h2
theorem getElem?_set {α : Type} {l : List α} {i j : Nat} {x y : α} (h : (l.set i x)[j]? = some y) : (i = j ∧ x = y ∧ i < l.length) ∨ (i ≠ j ∧ l[j]? = some y) := by
  by_cases e : i = j
  · subst e
    by_cases hi : i < l.length
    · rw [List.getElem?_set_self hi] at h
      exact .inl ⟨rfl, Option.some.inj h, hi⟩
    · rw [List.getElem?_eq_none (by rw [List.length_set]; omega)] at h
      cases h
  · rw [List.getElem?_set_ne e] at h
    exact .inr ⟨e, h⟩
/-- a slot is set to a value -/
theorem Rel.setv (R : Rel c F ρ σ G H) (r : Rep c G x d) : Rel c F (ρ.set i (.val d)) (σ.set i (some x)) G H := by
  refine ⟨by rw [List.length_set, List.length_set]; exact R.len, R.gh, R.bh, R.xg, R.xh, R.nh, fun j s q => ?_, fun j k b1 b2 d1 d2 a hne q1 q2 => ?_, R.tk⟩
  · rcases getElem?_set q with ⟨rfl, rfl, hi⟩ | ⟨hne, q⟩
    · exact ⟨some x, List.getElem?_set_self (by rw [← R.len]; exact hi), r⟩
    · obtain ⟨u, e, z⟩ := R.sl j s q
      exact ⟨u, by rw [List.getElem?_set_ne hne]; exact e, z⟩
  · rcases getElem?_set q1 with ⟨_, e1, _⟩ | ⟨n1, q1⟩
    · cases e1
    · rcases getElem?_set q2 with ⟨_, e2, _⟩ | ⟨n2, q2⟩
      · cases e2
      · rw [List.getElem?_set_ne n1, List.getElem?_set_ne n2]
        exact R.dj j k b1 b2 d1 d2 a hne q1 q2
/-- a slot is forgotten -/
theorem Rel.setun {u : Option V} (R : Rel c F ρ σ G H) : Rel c F (ρ.set i .un) (σ.set i u) G H := by
  refine ⟨by rw [List.length_set, List.length_set]; exact R.len, R.gh, R.bh, R.xg, R.xh, R.nh, fun j s q => ?_, fun j k b1 b2 d1 d2 a hne q1 q2 => ?_, R.tk⟩
  · rcases getElem?_set q with ⟨rfl, rfl, hi⟩ | ⟨hne, q⟩
    · exact ⟨u, List.getElem?_set_self (by rw [← R.len]; exact hi), trivial⟩
    · obtain ⟨u, e, z⟩ := R.sl j s q
      exact ⟨u, by rw [List.getElem?_set_ne hne]; exact e, z⟩
  · rcases getElem?_set q1 with ⟨_, e1, _⟩ | ⟨n1, q1⟩
    · cases e1
    · rcases getElem?_set q2 with ⟨_, e2, _⟩ | ⟨n2, q2⟩
      · cases e2
      · rw [List.getElem?_set_ne n1, List.getElem?_set_ne n2]
        exact R.dj j k b1 b2 d1 d2 a hne q1 q2
/-- a slot takes a new object -/
theorem Rel.seto (R : Rel c F ρ σ G H) (r : Fresh c F ρ σ G H p d) : Rel c F (ρ.set i (.own true d)) (σ.set i (some (.ref p))) G H := by
  refine ⟨by rw [List.length_set, List.length_set]; exact R.len, R.gh, R.bh, R.xg, R.xh, R.nh, fun j s q => ?_, fun j k b1 b2 d1 d2 a hne q1 q2 => ?_, R.tk⟩
  · rcases getElem?_set q with ⟨rfl, rfl, hi⟩ | ⟨hne, q⟩
    · exact ⟨some (.ref p), List.getElem?_set_self (by rw [← R.len]; exact hi), r.g, r.b, r.x, fun _ => r.n, (fun z => nomatch z), r.o⟩
    · obtain ⟨u, e, z⟩ := R.sl j s q
      exact ⟨u, by rw [List.getElem?_set_ne hne]; exact e, z⟩
  · rcases getElem?_set q1 with ⟨e0, e1, hi⟩ | ⟨n1, q1⟩
    · rcases getElem?_set q2 with ⟨e2, _, _⟩ | ⟨n2, q2⟩
      · exact absurd (e0.symm.trans e2) hne
      · subst e0
        rw [List.getElem?_set_self (by rw [← R.len]; exact hi), List.getElem?_set_ne n2]
        intro z
        cases z
        exact r.sl k b2 d2 q2
    · rcases getElem?_set q2 with ⟨e2, e3, hi⟩ | ⟨n2, q2⟩
      · subst e2
        rw [List.getElem?_set_self (by rw [← R.len]; exact hi), List.getElem?_set_ne n1]
        intro z y
        cases y
        exact r.sl j b1 d1 q1 z
      · rw [List.getElem?_set_ne n1, List.getElem?_set_ne n2]
        exact R.dj j k b1 b2 d1 d2 a hne q1 q2
/-- what a slot owns is changed -/
theorem Rel.mut {k : Bool} {d' : D} (R : Rel c F ρ σ G H) (h : ρ[i]? = some (.own k d)) (hs : σ[i]? = some (some (.ref a))) (od : OD c G o d') (nt : NT o) : Rel c F (ρ.set i (.own k d')) σ G (upd H a o) := by
  obtain ⟨a', e1, g1, b1, x1, n1, i1, u, o1, od1⟩ := R.slot_own h
  rw [hs] at e1
  cases e1
  have other : ∀ {a'}, H a' ≠ none → (upd H a o) a' ≠ none := fun {a'} q => by
    by_cases e : a' = a
    · subst e; rw [upd_same]; exact fun z => nomatch z
    · rw [upd_ne e]; exact q
  refine ⟨by rw [List.length_set]; exact R.len, R.gh.mut g1, R.bh.mut b1, R.xg, fun a' q => other (R.xh a' q), fun a' q => other (R.nh a' q), fun j s q => ?_, fun j l b1 b2 d1 d2 a' hne q1 q2 => ?_, fun b ks q => ?_⟩
  · rcases getElem?_set q with ⟨rfl, rfl, hi⟩ | ⟨hne, q⟩
    · exact ⟨_, hs, g1, b1, x1, n1, i1, o, upd_same, od⟩
    · obtain ⟨w, e, z⟩ := R.sl j s q
      refine ⟨w, e, ?_⟩
      cases s with
      | un => trivial
      | val d0 =>
        cases w with
        | none => exact z.elim
        | some y => exact z
      | own l e0 =>
        cases w with
        | none => exact z.elim
        | some y =>
          cases y with
          | ref a2 =>
            obtain ⟨z1, z2, z3, z4, z5, o2, z6, z7⟩ := z
            refine ⟨z1, z2, z3, z4, z5, o2, ?_, z7⟩
            have ne : a2 ≠ a := fun z => by
              subst z
              exact R.dj i j k l d e0 a2 hne h q hs e
            rw [upd_ne ne]
            exact z6
          | _ => exact z.elim
  · have old : ∀ {j : Nat} {b : Bool} {d0 : D}, (ρ.set i (.own k d'))[j]? = some (.own b d0) → ∃ b' d0', ρ[j]? = some (.own b' d0') := fun {j b d0} q => by
      rcases getElem?_set q with ⟨rfl, e, hi⟩ | ⟨hne, q⟩
      · exact ⟨_, _, h⟩
      · exact ⟨_, _, q⟩
    obtain ⟨c1, f1, q1'⟩ := old q1
    obtain ⟨c2, f2, q2'⟩ := old q2
    exact R.dj j l c1 c2 f1 f2 a' hne q1' q2'
  · by_cases e1 : b = a
    · subst e1; rw [upd_same] at q; cases q; exact absurd rfl (nt _)
    · rw [upd_ne e1] at q; exact R.tk b ks q
/-- what a slot owns is let go -/
theorem Rel.frz {ds : List D} (R : Rel c F ρ σ G H) (h : ρ[i]? = some (.own true (.list ds))) : ∃ a G', σ[i]? = some (some (.ref a)) ∧ Ex G G' ∧ Rel c F (ρ.set i (.val (.list ds))) σ G' H ∧ Rep c G' (.ref a) (.list ds) := by
  obtain ⟨a, e1, g1, b1, x1, n1, i1, o, o1, od1⟩ := R.slot_own h
  cases o with
  | lst xs =>
    have ex : Ex G (upd G a (.lst xs)) := Ex.new g1
    have rp : Rep c (upd G a (.lst xs)) (.ref a) (.list ds) := .lst (.inl (.inl upd_same)) (RepA.mono ex od1)
    refine ⟨a, upd G a (.lst xs), e1, ex, ⟨by rw [List.length_set]; exact R.len, fun a' o' q => ?_, R.bh, fun a' q => ?_, R.xh, R.nh, fun j s q => ?_, fun j l b1 b2 d1 d2 a' hne q1 q2 => ?_, fun b ks q => ex _ _ (R.tk b ks q)⟩, rp⟩
    · by_cases e : a' = a
      · subst e; rw [upd_same] at q; cases q; exact o1
      · rw [upd_ne e] at q; exact R.gh a' o' q
    · rw [upd_ne (fun z => x1 (by rw [← z]; exact q))]; exact R.xg a' q
    · rcases getElem?_set q with ⟨rfl, rfl, hi⟩ | ⟨hne, q⟩
      · exact ⟨_, e1, rp⟩
      · obtain ⟨w, e, z⟩ := R.sl j s q
        refine ⟨w, e, ?_⟩
        cases s with
        | un => trivial
        | val d0 =>
          cases w with
          | none => exact z.elim
          | some y => exact Rep.mono ex z
        | own l e0 =>
          cases w with
          | none => exact z.elim
          | some y =>
            cases y with
            | ref a2 =>
              obtain ⟨z1, z2, z3, z4, z5, o2, z6, z7⟩ := z
              have ne : a2 ≠ a := fun z => by
                subst z
                exact R.dj i j true l _ e0 a2 hne h q e1 e
              exact ⟨by rw [upd_ne ne]; exact z1, z2, z3, z4, z5, o2, z6, z7.mono ex⟩
            | _ => exact z.elim
    · rcases getElem?_set q1 with ⟨_, e, _⟩ | ⟨n1, q1⟩
      · cases e
      · rcases getElem?_set q2 with ⟨_, e, _⟩ | ⟨n2, q2⟩
        · cases e
        · exact R.dj j l b1 b2 d1 d2 a' hne q1 q2
  | _ => exact (show False from od1).elim
/-- a new object becomes known -/
theorem Fresh.know (R : Rel c F ρ σ G H) (r : Fresh c F ρ σ G H p (.list ds)) : ∃ G', Ex G G' ∧ Rel c F ρ σ G' H ∧ Rep c G' (.ref p) (.list ds) := by
  obtain ⟨g1, b1, x1, n1, ⟨o, o1, od1⟩, sl1⟩ := r
  cases o with
  | lst xs =>
    have ex : Ex G (upd G p (.lst xs)) := Ex.new g1
    refine ⟨upd G p (.lst xs), ex, ⟨R.len, fun a' o' q => ?_, R.bh, fun a' q => ?_, R.xh, R.nh, fun j s q => ?_, R.dj, fun b ks q => ex _ _ (R.tk b ks q)⟩, .lst (.inl (.inl upd_same)) (RepA.mono ex od1)⟩
    · by_cases e : a' = p
      · subst e; rw [upd_same] at q; cases q; exact o1
      · rw [upd_ne e] at q; exact R.gh a' o' q
    · rw [upd_ne (fun z => x1 (by rw [← z]; exact q))]; exact R.xg a' q
    · obtain ⟨w, e, z⟩ := R.sl j s q
      refine ⟨w, e, ?_⟩
      cases s with
      | un => trivial
      | val d0 =>
        cases w with
        | none => exact z.elim
        | some y => exact Rep.mono ex z
      | own l e0 =>
        cases w with
        | none => exact z.elim
        | some y =>
          cases y with
          | ref a2 =>
            obtain ⟨z1, z2, z3, z4, z5, o2, z6, z7⟩ := z
            have ne : a2 ≠ p := fun z => by
              subst z
              exact sl1 j l e0 q e
            exact ⟨by rw [upd_ne ne]; exact z1, z2, z3, z4, z5, o2, z6, z7.mono ex⟩
          | _ => exact z.elim
  | _ => exact (show False from od1).elim
end
end Dn


/-! Dn2: judgements: an expression, a test, a statement of the text does what the language of values says. -/
namespace Dn
open PySem L2

def ExcOk (c : Kc) (G : Hp) (x : Exn) (cls : Value) (dd : Option Addr) : Prop :=
  c.cls x.cls = some cls ∧ (x.fs = [] → dd = none) ∧ (x.fs ≠ [] → ∃ d vs, dd = some d ∧ G d = some (.xd vs) ∧ Paired (fun (p : Str × V) (q : Str × D) => p.1 = q.1 ∧ Rep c G p.2 q.2) vs x.fs)

/-- behind a piece that gives r: whatever the frame and the heap are, if only they are as told -/
def Pst {α : Type} (c : Kc) (F : Fr) (W : WX) (σ : L2.St) (G : Hp) (r : R α) (K : α → Env → Hp → Hp → Prop) : Prop := match r with
  | .ok a ρ' => ∀ G' H', Ex G G' → Rel c F ρ' σ G' H' → K a ρ' G' H'
  | .exc x ρ' => ∀ cls dd G' H', Ex G G' → Rel c F ρ' σ G' H' → ExcOk c G' x cls dd → W cls dd σ H'
  | .stuck => False
def PstS (c : Kc) (F : Fr) (md : Bool) (W : WX) (E : Ends) (G : Hp) (f : Fl) : Prop := match f with
  | .next ρ' => ∀ σ' G' H', Ex G G' → Rel c F ρ' σ' G' H' → E.nx σ' H'
  | .brk ρ' => ∀ σ' G' H', Ex G G' → Rel c F ρ' σ' G' H' → E.bk σ' H'
  | .cont ρ' => ∀ σ' G' H', Ex G G' → Rel c F ρ' σ' G' H' → E.ct σ' H'
  | .rt d ρ' => ∀ x σ' G' H', Ex G G' → Rel c F ρ' σ' G' H' →
      (if md = true then ∃ p, x = .ref p ∧ G' p = none ∧ F.B p = none ∧ ¬ F.X p ∧ F.N p ∧ ∃ o, H' p = some o ∧ OD c G' o d else Rep c G' x d) → E.rt x H'
  | .exc x ρ' => ∀ cls dd σ' G' H', Ex G G' → Rel c F ρ' σ' G' H' → ExcOk c G' x cls dd → W cls dd σ' H'
  | .stuck => False

section
variable {c : Kc} {F : Fr} {W : WX} {σ : L2.St} {G G' H H' : Hp} {ρ : Env} {E : Ends} {md : Bool}
theorem Pst.up {α : Type} {r : R α} {K : α → Env → Hp → Hp → Prop} (e : Ex G G') (h : Pst c F W σ G r K) : Pst c F W σ G' r K := by
  cases r with
  | ok a ρ' => exact fun G2 H2 e2 R => h G2 H2 (e.trans e2) R
  | exc x ρ' => exact fun cl dd G2 H2 e2 R => h cl dd G2 H2 (e.trans e2) R
  | stuck => exact h
theorem PstS.up {f : Fl} (e : Ex G G') (h : PstS c F md W E G f) : PstS c F md W E G' f := by
  cases f with
  | next ρ' => exact fun s G2 H2 e2 R => h s G2 H2 (e.trans e2) R
  | brk ρ' => exact fun s G2 H2 e2 R => h s G2 H2 (e.trans e2) R
  | cont ρ' => exact fun s G2 H2 e2 R => h s G2 H2 (e.trans e2) R
  | rt d ρ' => exact fun x s G2 H2 e2 R => h x s G2 H2 (e.trans e2) R
  | exc x ρ' => exact fun cl dd s G2 H2 e2 R => h cl dd s G2 H2 (e.trans e2) R
  | stuck => exact h
theorem Pst.weak {α : Type} {r : R α} {K K' : α → Env → Hp → Hp → Prop} (h : Pst c F W σ G r K) (k : ∀ a ρ' G' H', Ex G G' → Rel c F ρ' σ G' H' → K a ρ' G' H' → K' a ρ' G' H') : Pst c F W σ G r K' := by
  cases r with
  | ok a ρ' => exact fun G2 H2 e2 R => k _ _ _ _ e2 R (h G2 H2 e2 R)
  | exc x ρ' => exact h
  | stuck => exact h
/-- a piece, then what hangs on it -/
theorem Pst.bind {α β : Type} {r : R α} {f : α → M β} {K : β → Env → Hp → Hp → Prop} {K' : α → Env → Hp → Hp → Prop} (h : Pst c F W σ G (r.next f) K)
    (k : ∀ a ρ' G' H', Ex G G' → Rel c F ρ' σ G' H' → Pst c F W σ G' (f a ρ') K → K' a ρ' G' H') : Pst c F W σ G r K' := by
  cases r with
  | ok a ρ' => exact fun G2 H2 e2 R => k a ρ' G2 H2 e2 R (Pst.up e2 (show Pst c F W σ G (f a ρ') K from h))
  | exc x ρ' => exact h
  | stuck => exact h
theorem Pst.fl {α : Type} {r : R α} {f : α → S} {K' : α → Env → Hp → Hp → Prop} (h : PstS c F md W E G (r.fl f))
    (hE : ∀ a b s H, W a b s H → W a b s H)
    (k : ∀ a ρ' G' H', Ex G G' → Rel c F ρ' σ G' H' → PstS c F md W E G' (f a ρ') → K' a ρ' G' H') : Pst c F W σ G r K' := by
  cases r with
  | ok a ρ' => exact fun G2 H2 e2 R => k a ρ' G2 H2 e2 R (PstS.up e2 (show PstS c F md W E G (f a ρ') from h))
  | exc x ρ' => exact fun cl dd G2 H2 e2 R => (show ∀ cls dd σ' G' H', _ → _ → _ → W cls dd σ' H' from h) cl dd σ G2 H2 e2 R
  | stuck => exact h
theorem Pst.use {α : Type} {a : α} {K : α → Env → Hp → Hp → Prop} (h : Pst c F W σ G (.ok a ρ) K) (R : Rel c F ρ σ G H) : K a ρ G H := h G H (Ex.refl G) R
/-- a part that may not be -/
theorem Pst.lift {α β : Type} {o : Option α} {f : α → M β} {K : β → Env → Hp → Hp → Prop} (h : Pst c F W σ G ((lift o ρ).next f) K) : ∃ a, o = some a ∧ Pst c F W σ G (f a ρ) K := by
  cases o with
  | none => exact (show False from h).elim
  | some a => exact ⟨a, rfl, h⟩
end

/-- what an operand is -/
def Ret (c : Kc) (σ : L2.St) (G : Hp) (x : V) : Opd → Prop
  | .val d => Rep c G x d
  | .bor i => σ[i]? = some (some x)
inductive Rets (c : Kc) (σ : L2.St) (G : Hp) : List V → List Opd → Prop
  | nil : Rets c σ G [] []
  | cons {x xs o os} : Ret c σ G x o → Rets c σ G xs os → Rets c σ G (x :: xs) (o :: os)
theorem Ret.mono {c : Kc} {σ : L2.St} {G G' : Hp} {x : V} {o : Opd} (e : Ex G G') (h : Ret c σ G x o) : Ret c σ G' x o := by
  cases o with
  | val d => exact Rep.mono e h
  | bor i => exact h
theorem Rets.mono {c : Kc} {σ : L2.St} {G G' : Hp} (e : Ex G G') : ∀ {xs : List V} {os : List Opd}, Rets c σ G xs os → Rets c σ G' xs os
  | _, _, .nil => .nil
  | _, _, .cons h t => .cons (h.mono e) (t.mono e)

/-- a value that is read now: it is known, or an object as it stands -/
def ORep (c : Kc) (G H : Hp) (x : V) (d : D) : Prop := Rep c G x d ∨ (objD d = true ∧ ∃ a o, x = .ref a ∧ H a = some o ∧ OD c G o d)
inductive OReps (c : Kc) (G H : Hp) : List V → List D → Prop
  | nil : OReps c G H [] []
  | cons {x xs d ds} : ORep c G H x d → OReps c G H xs ds → OReps c G H (x :: xs) (d :: ds)
theorem res_ok {c : Kc} {F : Fr} {W : WX} {σ : L2.St} {G H : Hp} {ρ : Env} {β : Type} {x : V} {o : Opd} {f : D → M β} {K : β → Env → Hp → Hp → Prop}
    (R : Rel c F ρ σ G H) (r : Ret c σ G x o) (h : Pst c F W σ G (bnd (res o) f ρ) K) : ∃ d, ORep c G H x d ∧ Pst c F W σ G (f d ρ) K := by
  cases o with
  | val d => exact ⟨d, .inl r, h⟩
  | bor i =>
    obtain ⟨d, e, h⟩ := Pst.lift (show Pst c F W σ G ((lift (readOwn i ρ) ρ).next f) K from h)
    obtain ⟨k, hs, ho⟩ := readOwn_some e
    obtain ⟨a, e1, _, _, _, _, _, o, e2, od⟩ := R.slot_own hs
    have r' : σ[i]? = some (some x) := r
    rw [e1] at r'
    cases r'
    exact ⟨_, .inr ⟨ho, a, o, rfl, e2, od⟩, h⟩
theorem stab_ok {c : Kc} {F : Fr} {W : WX} {σ : L2.St} {G H : Hp} {ρ : Env} {β : Type} {x : V} {o : Opd} {f : D → M β} {K : β → Env → Hp → Hp → Prop}
    (r : Ret c σ G x o) (h : Pst c F W σ G (bnd (stab o) f ρ) K) : ∃ d, Rep c G x d ∧ Pst c F W σ G (f d ρ) K := by
  cases o with
  | val d => exact ⟨d, r, h⟩
  | bor i => exact (show False from h).elim
theorem ress_ok {c : Kc} {F : Fr} {W : WX} {σ : L2.St} {G H : Hp} {ρ : Env} {β : Type} (R : Rel c F ρ σ G H) {K : β → Env → Hp → Hp → Prop} :
    ∀ {xs : List V} {os : List Opd} {f : List D → M β}, Rets c σ G xs os → Pst c F W σ G (bnd (ress os) f ρ) K → ∃ ds, OReps c G H xs ds ∧ Pst c F W σ G (f ds ρ) K
  | _, _, f, .nil, h => ⟨[], .nil, h⟩
  | _, _, f, .cons (o := o) (os := os) r t, h => by
    have h1 : Pst c F W σ G (bnd (res o) (fun d => bnd (ress os) fun ds => f (d :: ds)) ρ) K := by
      have e : bnd (ress (o :: os)) f ρ = bnd (res o) (fun d => bnd (ress os) fun ds => f (d :: ds)) ρ := by
        show ((bnd (res o) fun d => bnd (ress os) fun ds => ret (d :: ds)) ρ).next f = ((res o ρ).next fun d => bnd (ress os) fun ds => f (d :: ds))
        show (((res o ρ).next fun d => bnd (ress os) fun ds => ret (d :: ds))).next f = _
        cases res o ρ with
        | ok d ρ1 =>
          show ((ress os ρ1).next fun ds => ret (d :: ds)).next f = (ress os ρ1).next fun ds => f (d :: ds)
          cases ress os ρ1 <;> rfl
        | exc x ρ1 => rfl
        | stuck => rfl
      rw [← e]
      exact h
    obtain ⟨d, h2, h3⟩ := res_ok R r h1
    obtain ⟨ds, h4, h5⟩ := ress_ok R t h3
    exact ⟨d :: ds, .cons h2 h4, h5⟩
theorem stabs_ok {c : Kc} {F : Fr} {W : WX} {σ : L2.St} {G : Hp} {ρ : Env} {β : Type} {K : β → Env → Hp → Hp → Prop} :
    ∀ {xs : List V} {os : List Opd} {f : List D → M β}, Rets c σ G xs os → Pst c F W σ G (bnd (stabs os) f ρ) K → ∃ ds, RepA c G xs ds ∧ Pst c F W σ G (f ds ρ) K
  | _, _, f, .nil, h => ⟨[], .nil, h⟩
  | _, _, f, .cons (o := o) (os := os) r t, h => by
    have h1 : Pst c F W σ G (bnd (stab o) (fun d => bnd (stabs os) fun ds => f (d :: ds)) ρ) K := by
      have e : bnd (stabs (o :: os)) f ρ = bnd (stab o) (fun d => bnd (stabs os) fun ds => f (d :: ds)) ρ := by
        show (((stab o ρ).next fun d => bnd (stabs os) fun ds => ret (d :: ds))).next f = ((stab o ρ).next fun d => bnd (stabs os) fun ds => f (d :: ds))
        cases stab o ρ with
        | ok d ρ1 =>
          show ((stabs os ρ1).next fun ds => ret (d :: ds)).next f = (stabs os ρ1).next fun ds => f (d :: ds)
          cases stabs os ρ1 <;> rfl
        | exc x ρ1 => rfl
        | stuck => rfl
      rw [← e]
      exact h
    obtain ⟨d, h2, h3⟩ := stab_ok (H := G) r h1
    obtain ⟨ds, h4, h5⟩ := stabs_ok t h3
    exact ⟨d :: ds, .cons h2 h4, h5⟩

/-! ### the readings -/
def tE (c : Kc) (W : WX) (m : M Opd) : TE := fun σ H Q => ∃ F ρ G, Rel c F ρ σ G H ∧ Pst c F W σ G (m ρ) fun o _ G' H' => ∀ x, Ret c σ G' x o → Q x H'
def tT (c : Kc) (W : WX) (m : M Bool) : TT := fun σ H Q => ∃ F ρ G, Rel c F ρ σ G H ∧ Pst c F W σ G (m ρ) fun x _ _ H' => Q x H'
def tA (c : Kc) (W : WX) (m : M (List Opd)) : TA := fun σ H Q => ∃ F ρ G, Rel c F ρ σ G H ∧ Pst c F W σ G (m ρ) fun os _ G' H' => ∀ xs, Rets c σ G' xs os → Q xs H'
/-- a new object -/
def tN (c : Kc) (W : WX) (m : M Opd) : TE := fun σ H Q => ∃ F ρ G, Rel c F ρ σ G H ∧ Pst c F W σ G (m ρ) fun o ρ' G' H' => ∀ d p, o = .val d → Fresh c F ρ' σ G' H' p d → Q (.ref p) H'
def tS (c : Kc) (W : WX) (md : Bool) (s : S) : TS := fun E σ H => ∃ F ρ G, Rel c F ρ σ G H ∧ PstS c F md W E G (s ρ)

/-- what stands around a piece of the text -/
structure Ctx (X : Cx) (c : Kc) (W : WX) (n : Nat) : Prop where
  hK : c.K = X.K
  calm : X.calm = true
  nd : X.N.Nodup
  po : PassesOwn (model X.prog X.w) X.A X.env X.xe
  tk : Takes X W
  room : Room n X.A
theorem Ctx.hu {X : Cx} {c : Kc} {W : WX} {n : Nat} (k : Ctx X c W n) : X.A.units + 199 < cLine := by
  have := k.room.un
  omega

def EE (X : Cx) (c : Kc) (W : WX) (n : Nat) (e : Expr) (m : M Opd) : Prop := Ctx X c W n → PE X e (tE c W m)
def EN (X : Cx) (c : Kc) (W : WX) (n : Nat) (e : Expr) (m : M Opd) : Prop := Ctx X c W n → PE X e (tN c W m)
def ET (X : Cx) (c : Kc) (W : WX) (n : Nat) (e : Expr) (m : M Bool) : Prop := Ctx X c W n → PT X e (tT c W m)
def EW (X : Cx) (c : Kc) (W : WX) (n : Nat) (e : Expr) (m : M Bool) : Prop := Ctx X c W n → PW X e (tT c W m)
def EA (X : Cx) (c : Kc) (W : WX) (n : Nat) (es : List Expr) (m : M (List Opd)) : Prop := Ctx X c W n → PA X es (tA c W m)
def SS (X : Cx) (c : Kc) (W : WX) (n : Nat) (md : Bool) (st : Stmt) (s : S) : Prop := Ctx X c W n → PS X st (tS c W md s)
def SB (X : Cx) (c : Kc) (W : WX) (n : Nat) (md : Bool) (st : List Stmt) (s : S) : Prop := Ctx X c W n → PSs X st (tS c W md s)

theorem peMono {X : Cx} {e : Expr} {t t' : TE} (h : PE X e t) (k : ∀ σ H Q, t' σ H Q → t σ H Q) : PE X e t' := ⟨fun pins s σ H Q I q => h.run pins s σ H Q I (k σ H Q q)⟩
theorem ptMono {X : Cx} {e : Expr} {t t' : TT} (h : PT X e t) (k : ∀ σ H Q, t' σ H Q → t σ H Q) : PT X e t' := ⟨fun pins s σ H Q I q => h.run pins s σ H Q I (k σ H Q q)⟩
theorem pwMono {X : Cx} {e : Expr} {t t' : TT} (h : PW X e t) (k : ∀ σ H Q, t' σ H Q → t σ H Q) : PW X e t' := ⟨fun wh pins s σ H Q I q => h.run wh pins s σ H Q I (k σ H Q q)⟩
theorem paMono {X : Cx} {e : List Expr} {t t' : TA} (h : PA X e t) (k : ∀ σ H Q, t' σ H Q → t σ H Q) : PA X e t' := ⟨fun pos pins s σ H Q I q => h.run pos pins s σ H Q I (k σ H Q q)⟩
theorem psMono {X : Cx} {e : Stmt} {t t' : TS} (h : PS X e t) (k : ∀ E σ H, t' E σ H → t E σ H) : PS X e t' := ⟨fun pins s σ H E I q => h.run pins s σ H E I (k E σ H q)⟩
theorem pssMono {X : Cx} {e : List Stmt} {t t' : TS} (h : PSs X e t) (k : ∀ E σ H, t' E σ H → t E σ H) : PSs X e t' := ⟨fun pins s σ H E I q => h.run pins s σ H E I (k E σ H q)⟩
theorem piMono {X : Cx} {t e : Expr} {w w' : TI} (h : PI X t e w) (k : ∀ σ H Q, w' σ H Q → w σ H Q) : PI X t e w' := ⟨fun pins s σ H Q I q => h.run pins s σ H Q I (k σ H Q q)⟩

section
variable {X : Cx} {c : Kc} {W : WX} {n : Nat} {md : Bool} {e a b : Expr} {m ma mb : M Opd} {pos : Pos}

/-- from a reading of values to one of the language: run the piece, then go on -/
theorem tE_bind {σ : L2.St} {G H : Hp} {F : Fr} {ρ : Env} {β : Type} {f : Opd → M β} {K : β → Env → Hp → Hp → Prop} {Q : VK} (R : Rel c F ρ σ G H) (h : Pst c F W σ G (bnd m f ρ) K)
    (k : ∀ o ρ' G' H' x, Ex G G' → Rel c F ρ' σ G' H' → Ret c σ G' x o → Pst c F W σ G' (f o ρ') K → Q x H') : tE c W m σ H Q :=
  ⟨F, ρ, G, R, Pst.bind h fun o ρ' G' H' ex R' h' x r => k o ρ' G' H' x ex R' r h'⟩
theorem tT_bind {σ : L2.St} {G H : Hp} {F : Fr} {ρ : Env} {β : Type} {t : M Bool} {f : Bool → M β} {K : β → Env → Hp → Hp → Prop} {Q : Bool → Hp → Prop} (R : Rel c F ρ σ G H) (h : Pst c F W σ G (bnd t f ρ) K)
    (k : ∀ o ρ' G' H', Ex G G' → Rel c F ρ' σ G' H' → Pst c F W σ G' (f o ρ') K → Q o H') : tT c W t σ H Q :=
  ⟨F, ρ, G, R, Pst.bind h k⟩
theorem tA_bind {σ : L2.St} {G H : Hp} {F : Fr} {ρ : Env} {β : Type} {t : M (List Opd)} {f : List Opd → M β} {K : β → Env → Hp → Hp → Prop} {Q : List V → Hp → Prop} (R : Rel c F ρ σ G H) (h : Pst c F W σ G (bnd t f ρ) K)
    (k : ∀ os ρ' G' H' xs, Ex G G' → Rel c F ρ' σ G' H' → Rets c σ G' xs os → Pst c F W σ G' (f os ρ') K → Q xs H') : tA c W t σ H Q :=
  ⟨F, ρ, G, R, Pst.bind h fun os ρ' G' H' ex R' h' xs r => k os ρ' G' H' xs ex R' r h'⟩

/-! ### names and constants -/
theorem e_c {v : V} {d : D} (h : PE X e (tC v)) (r : ∀ G, Rep c G v d) : EE X c W n e (Dn.c d) := fun _ => peMono h fun σ H Q ⟨F, ρ, G, R, p⟩ => (Pst.use p R) v (r G)
theorem e_int {i : Int} {j} : EE X c W n (.Constant (.int i) j pos) (Dn.c (.int i)) := e_c pe_int fun _ => .int i
theorem e_bl {i : Bool} {j} : EE X c W n (.Constant (.bool i) j pos) (Dn.c (.bool i)) := e_c pe_bl fun _ => .bl i
theorem e_non {j} : EE X c W n (.Constant .none j pos) (Dn.c .none) := e_c pe_non fun _ => .non
theorem e_str {z : Str} {j} : EE X c W n (.Constant (.str z) j pos) (Dn.c (.str z)) := e_c pe_str fun _ => .str z
/-- a constant of the module -/
theorem e_gl {x : Str} {v : V} {u : Value} {d : D} (hm : X.mg x = some u) (r : RelV v u) (rd : Rep c (fun _ => none) v d) (hg : Gl X x := by rfl) (hd : (x == ("__debug__" : Str)) = false := by decide) : EE X c W n (.Name x pos) (Dn.c d) :=
  e_c (pe_glob hg hm r hd) fun G => rd.mono fun _ _ z => (by cases z)
theorem e_v (i : Nat) {x : Str} (hN : X.N[i]? = some x := by rfl) (hv : Vis X.env.scope x := by first | exact Or.inl rfl | exact Or.inr (Or.inl rfl) | exact Or.inr (Or.inr rfl)) (hd : (x == ("__debug__" : Str)) = false := by decide)
    (hcd : (x == ("__classdict__" : Str)) = false := by decide) : EE X c W n (.Name x pos) (v i) := fun _ => peMono (pe_var hN hv hd hcd) fun σ H Q ⟨F, ρ, G, R, p⟩ => by
  unfold v at p
  cases e : readVal i ρ with
  | none => rw [e] at p; exact (show False from p).elim
  | some d =>
    rw [e] at p
    unfold readVal at e
    split at e
    · rename_i d' hs
      cases e
      obtain ⟨x, h1, h2⟩ := R.slot_val hs
      exact ⟨x, h1, Pst.use p R x h2⟩
    · cases e
theorem e_b (i : Nat) {x : Str} (hN : X.N[i]? = some x := by rfl) (hv : Vis X.env.scope x := by first | exact Or.inl rfl | exact Or.inr (Or.inl rfl) | exact Or.inr (Or.inr rfl)) (hd : (x == ("__debug__" : Str)) = false := by decide)
    (hcd : (x == ("__classdict__" : Str)) = false := by decide) : EE X c W n (.Name x pos) (Dn.b i) := fun _ => peMono (pe_var hN hv hd hcd) fun σ H Q ⟨F, ρ, G, R, p⟩ => by
  unfold Dn.b at p
  cases e : readOwn i ρ with
  | none => rw [e] at p; exact (show False from p).elim
  | some d =>
    rw [e] at p
    obtain ⟨k, hs, ho⟩ := readOwn_some e
    obtain ⟨a, h1, _⟩ := R.slot_own hs
    exact ⟨_, h1, Pst.use p R _ h1⟩
theorem e_frz (i : Nat) {x : Str} (hN : X.N[i]? = some x := by rfl) (hv : Vis X.env.scope x := by first | exact Or.inl rfl | exact Or.inr (Or.inl rfl) | exact Or.inr (Or.inr rfl)) (hd : (x == ("__debug__" : Str)) = false := by decide)
    (hcd : (x == ("__classdict__" : Str)) = false := by decide) : EE X c W n (.Name x pos) (frz i) := fun _ => peMono (pe_var hN hv hd hcd) fun σ H Q ⟨F, ρ, G, R, p⟩ => by
  unfold frz at p
  split at p
  · rename_i d hs
    split at p
    · rename_i hl
      cases d with
      | list ds =>
        obtain ⟨a, G', h1, ex, R', rp⟩ := R.frz hs
        exact ⟨_, h1, p G' H ex R' _ rp⟩
      | _ => cases hl
    · exact (show False from p).elim
  · exact (show False from p).elim

/-! ### operations -/
/-- what an operation may give: something known, or a new object -/
def ResK (c : Kc) (G H : Hp) (r : D) (Q : VK) : Prop := (∀ z, Rep c G z r → Q z H) ∧ ∀ p o, H p = none → OD c G o r → (∀ u : List (D × D), r ≠ .dict u) → Q (.ref p) (upd H p o)
def rD1 (c : Kc) (g : D → Option D) : V → Hp → VK → Prop := fun x H Q => ∃ G d r, Ex G H ∧ ORep c G H x d ∧ g d = some r ∧ ResK c G H r Q
def rD2 (c : Kc) (g : D → D → Option D) : R2 := fun x y H Q => ∃ G d e r, Ex G H ∧ ORep c G H x d ∧ ORep c G H y e ∧ g d e = some r ∧ ResK c G H r Q
def rDN (c : Kc) (g : List D → Option D) : List V → Hp → VK → Prop := fun xs H Q => ∃ G ds r, Ex G H ∧ OReps c G H xs ds ∧ g ds = some r ∧ ResK c G H r Q
/-- such that a new object is made -/
def ResN (c : Kc) (G H : Hp) (r : D) (Q : VK) : Prop := ∀ p o, H p = none → OD c G o r → NT o → Q (.ref p) (upd H p o)
def rN1 (c : Kc) (g : D → Option D) : V → Hp → VK → Prop := fun x H Q => ∃ G d r, Ex G H ∧ ORep c G H x d ∧ g d = some r ∧ ResN c G H r Q
def rN2 (c : Kc) (g : D → D → Option D) : R2 := fun x y H Q => ∃ G d e r, Ex G H ∧ ORep c G H x d ∧ ORep c G H y e ∧ g d e = some r ∧ ResN c G H r Q
def rNN (c : Kc) (g : List D → Option D) : List V → Hp → VK → Prop := fun xs H Q => ∃ G ds r, Ex G H ∧ OReps c G H xs ds ∧ g ds = some r ∧ ResN c G H r Q
theorem rep_new {G : Hp} {p : Addr} {o : HO} {d : D} (h : G p = none) (od : OD c G o d) (nd : ∀ u : List (D × D), d ≠ .dict u) : Rep c (upd G p o) (.ref p) d := by
  cases o <;> cases d <;> first
    | exact (show False from od).elim
    | exact .lst (.inl (.inl upd_same)) (RepA.mono (Ex.new h) (show RepA c G _ _ from od))
    | exact .tup upd_same (RepA.mono (Ex.new h) (show RepA c G _ _ from od))
    | exact absurd rfl (nd _)
theorem resK_of {F : Fr} {σ : L2.St} {ρ : Env} {G H : Hp} {r : D} {Q : VK} (R : Rel c F ρ σ G H) (p : Pst c F W σ G (.ok (Opd.val r) ρ) fun o _ G' H' => ∀ x, Ret c σ G' x o → Q x H') : ResK c G H r Q :=
  ⟨fun z rz => Pst.use p R z rz, fun q o hq od nd => p _ _ (Ex.new (R.gh.free hq)) (R.new hq) _ (rep_new (R.gh.free hq) od nd)⟩
theorem resN_of {F : Fr} {σ : L2.St} {ρ : Env} {G H : Hp} {r : D} {Q : VK} (R : Rel c F ρ σ G H) (p : Pst c F W σ G (.ok (Opd.val r) ρ) fun o ρ' G' H' => ∀ d p, o = .val d → Fresh c F ρ' σ G' H' p d → Q (.ref p) H') : ResN c G H r Q :=
  fun q o hq od nt => p _ _ (Ex.refl G) (R.hid hq nt) r q rfl (R.fresh hq od)
theorem e_op {op : Operator} {g : D → D → Option D} (ha : EE X c W n a ma) (hb : EE X c W n b mb) (ho : Ctx X c W n → OpR X (binaryOp op) (rD2 c g)) : EE X c W n (.BinOp a op b pos) (e2 g ma mb) := fun k =>
  peMono (pe_op (ho k) (ha k) (hb k)) fun σ H Q ⟨F, ρ, G, R, p⟩ => tE_bind R p fun o ρ1 G1 H1 x e1 R1 r1 p1 => tE_bind R1 p1 fun o2 ρ2 G2 H2 y e2 R2 r2 p2 => by
    obtain ⟨d, q1, p3⟩ := res_ok R2 (r1.mono e2) p2
    obtain ⟨e, q2, p4⟩ := res_ok R2 r2 p3
    obtain ⟨r, q3, p5⟩ := Pst.lift p4
    exact ⟨G2, d, e, r, R2.gh, q1, q2, q3, resK_of R2 p5⟩
theorem n_op {op : Operator} {g : D → D → Option D} (ha : EE X c W n a ma) (hb : EE X c W n b mb) (ho : Ctx X c W n → OpR X (binaryOp op) (rN2 c g)) : EN X c W n (.BinOp a op b pos) (e2 g ma mb) := fun k =>
  peMono (pe_op (ho k) (ha k) (hb k)) fun σ H Q ⟨F, ρ, G, R, p⟩ => tE_bind R p fun o ρ1 G1 H1 x e1 R1 r1 p1 => tE_bind R1 p1 fun o2 ρ2 G2 H2 y e2 R2 r2 p2 => by
    obtain ⟨d, q1, p3⟩ := res_ok R2 (r1.mono e2) p2
    obtain ⟨e, q2, p4⟩ := res_ok R2 r2 p3
    obtain ⟨r, q3, p5⟩ := Pst.lift p4
    exact ⟨G2, d, e, r, R2.gh, q1, q2, q3, resN_of R2 p5⟩
theorem e_un {op : UnaryOp} {g : D → Option D} (ha : EE X c W n a ma) (ho : Ctx X c W n → UnR X (unaryOp op) (rD1 c g)) : EE X c W n (.UnaryOp op a pos) (e1 g ma) := fun k =>
  peMono (pe_un (ho k) (ha k)) fun σ H Q ⟨F, ρ, G, R, p⟩ => tE_bind R p fun o ρ1 G1 H1 x e1 R1 r1 p1 => by
    obtain ⟨d, q1, p3⟩ := res_ok R1 r1 p1
    obtain ⟨r, q3, p5⟩ := Pst.lift p3
    exact ⟨G1, d, r, R1.gh, q1, q3, resK_of R1 p5⟩
theorem e_cmp {op : CmpOp} {g : D → D → Option D} (ha : EE X c W n a ma) (hb : EE X c W n b mb) (ho : Ctx X c W n → OpR X (compareOp op) (rD2 c g)) (hm : behindInMarks op b = false := by first | exact nobehind _ (by decide) (by decide) | rfl) : EE X c W n (.Compare a [op] [b] pos) (e2 g ma mb) := fun k =>
  peMono (pe_cmpR (ho k) (ha k) (hb k) hm) fun σ H Q ⟨F, ρ, G, R, p⟩ => tE_bind R p fun o ρ1 G1 H1 x e1 R1 r1 p1 => tE_bind R1 p1 fun o2 ρ2 G2 H2 y e2 R2 r2 p2 => by
    obtain ⟨d, q1, p3⟩ := res_ok R2 (r1.mono e2) p2
    obtain ⟨e, q2, p4⟩ := res_ok R2 r2 p3
    obtain ⟨r, q3, p5⟩ := Pst.lift p4
    exact ⟨G2, d, e, r, R2.gh, q1, q2, q3, resK_of R2 p5⟩
theorem e_ix {g : D → D → Option D} (ha : EE X c W n a ma) (hb : EE X c W n b mb) (ho : Ctx X c W n → IxR X (rD2 c g)) (hs : PlainIx b := by exact fun _ _ => rfl) : EE X c W n (.Subscript a b pos) (e2 g ma mb) := fun k =>
  peMono (pe_ix (ho k) (ha k) (hb k) hs) fun σ H Q ⟨F, ρ, G, R, p⟩ => tE_bind R p fun o ρ1 G1 H1 x e1 R1 r1 p1 => tE_bind R1 p1 fun o2 ρ2 G2 H2 y e2 R2 r2 p2 => by
    obtain ⟨d, q1, p3⟩ := res_ok R2 (r1.mono e2) p2
    obtain ⟨e, q2, p4⟩ := res_ok R2 r2 p3
    obtain ⟨r, q3, p5⟩ := Pst.lift p4
    exact ⟨G2, d, e, r, R2.gh, q1, q2, q3, resK_of R2 p5⟩
/-- a new object that becomes known -/
theorem e_n {m : M Opd} (h : EN X c W n e m) (hl : ∀ ρ o ρ', m ρ = .ok o ρ' → ∃ ds, o = .val (.list ds)) : EE X c W n e m := fun k =>
  peMono (h k) fun σ H Q ⟨F, ρ, G, R, p⟩ => ⟨F, ρ, G, R, by
    cases e : m ρ with
    | ok o ρ' =>
      obtain ⟨ds, e2⟩ := hl _ _ _ e
      subst e2
      rw [e] at p
      refine fun G1 H1 e1 R1 d q ed fr => ?_
      cases ed
      obtain ⟨G2, e2, R2, r2⟩ := fr.know R1
      exact p G2 H1 (e1.trans e2) R2 _ r2
    | exc x ρ' => rw [e] at p; exact p
    | stuck => rw [e] at p; exact p⟩
end
end Dn


/-! Dn3: tests, rows of arguments, displays, statements, loops. -/
namespace Dn
open PySem L2

section
variable {X : Cx} {c : Kc} {W : WX} {n : Nat} {md : Bool} {e a b : Expr} {m ma mb mc : M Opd} {ta tb : M Bool} {pos : Pos}

/-- the truth of a value that is told -/
theorem asB_ok {F : Fr} {σ : L2.St} {ρ : Env} {G H : Hp} {x : V} {d : D} {β : Type} {f : Bool → M β} {K : β → Env → Hp → Hp → Prop} (r : ORep c G H x d) (h : Pst c F W σ G ((lift (asB d) ρ).next f) K) : ∃ k, x = .bl k ∧ Pst c F W σ G (f k ρ) K := by
  obtain ⟨k, e, h⟩ := Pst.lift h
  cases d with
  | bool y =>
    have ey : y = k := Option.some.inj e
    subst ey
    rcases r with r | ⟨ho, _⟩
    · cases r
      exact ⟨_, rfl, h⟩
    · cases ho
  | _ => exact (by cases e)
/-- the reading of a test from that of its value -/
theorem tst_to {σ : L2.St} {H : Hp} {Q : Bool → Hp → Prop} (h : tT c W (tst m) σ H Q) : tE c W m σ H fun x H1 => ∃ k, x = .bl k ∧ Q k H1 := by
  obtain ⟨F, ρ, G, R, p⟩ := h
  refine tE_bind R p fun o ρ1 G1 H1 x e1 R1 r1 p1 => ?_
  obtain ⟨d, q1, p2⟩ := res_ok R1 r1 p1
  have p3 : Pst c F W σ G1 ((lift (asB d) ρ1).next ret) fun x _ _ H' => Q x H' := by
    cases e : asB d with
    | none => rw [e] at p2; exact p2
    | some y => rw [e] at p2; exact p2
  obtain ⟨k, e, p4⟩ := asB_ok (H := H1) q1 p3
  exact ⟨k, e, Pst.use p4 R1⟩
theorem t_val (h : EE X c W n e m) (he : ∀ whole, isTrue e X.env whole = (do let v ← whole; standAt e.pos; holding [v] (truthy v)) := by intro _; rfl) : ET X c W n e (tst m) := fun k =>
  ptMono (pt_val (h k) he) fun σ H Q q => tst_to q
theorem t_cmp {op : CmpOp} {g : D → D → Option D} (ha : EE X c W n a ma) (hb : EE X c W n b mb) (ho : Ctx X c W n → OpR X (compareOp op) (rD2 c g)) (hm : behindInMarks op b = false := by first | exact nobehind _ (by decide) (by decide) | rfl) : ET X c W n (.Compare a [op] [b] pos) (tst (e2 g ma mb)) := fun k => by
  refine ptMono (pt_cmpR (ho k) (ha k) (hb k) hm) fun σ H Q q => ?_
  have q1 := tst_to q
  obtain ⟨F, ρ, G, R, p⟩ := q1
  refine tE_bind R p fun o ρ1 G1 H1 x e1 R1 r1 p1 => tE_bind R1 p1 fun o2 ρ2 G2 H2 y e2 R2 r2 p2 => ?_
  obtain ⟨d, q1, p3⟩ := res_ok R2 (r1.mono e2) p2
  obtain ⟨e, q2, p4⟩ := res_ok R2 r2 p3
  obtain ⟨r, q3, p5⟩ := Pst.lift p4
  exact ⟨G2, d, e, r, R2.gh, q1, q2, q3, resK_of R2 p5⟩
theorem e_chain {op op' : CmpOp} {g h : D → D → Option D} {e3 : Expr} (ha : EE X c W n a ma) (hb : EE X c W n b mb) (hc : EE X c W n e3 mc) (ho : Ctx X c W n → OpR X (compareOp op) (rD2 c g)) (ho' : Ctx X c W n → OpR X (compareOp op') (rD2 c h))
    (hm : lastMarks [op, op'] [b, e3] = false := by with_unfolding_all rfl) : EE X c W n (.Compare a [op, op'] [b, e3] pos) (chain g h ma mb mc) := fun k =>
  peMono (pe_chain (ho k) (ho' k) (ha k) (hb k) (hc k) hm) fun σ H Q ⟨F, ρ, G, R, p⟩ => tE_bind R p fun o ρ1 G1 H1 x e1 R1 r1 p1 => tE_bind R1 p1 fun o2 ρ2 G2 H2 y e2 R2 r2 p2 => by
    obtain ⟨d, q1, p3⟩ := res_ok R2 (r1.mono e2) p2
    obtain ⟨e, q2, p4⟩ := res_ok R2 r2 p3
    obtain ⟨r, q3, p5⟩ := Pst.lift p4
    refine ⟨G2, d, e, r, R2.gh, q1, q2, q3, fun z rz => ?_, fun q o hq od nd => ?_⟩
    · obtain ⟨t, ez, p6⟩ := asB_ok (H := H2) (.inl rz) p5
      refine ⟨t, ez, ?_⟩
      cases t with
      | true =>
        refine tE_bind R2 p6 fun o3 ρ3 G3 H3 w e3 R3 r3 p7 => ?_
        obtain ⟨e', q4, p8⟩ := res_ok R3 (r2.mono e3) p7
        obtain ⟨f', q5, p9⟩ := res_ok R3 r3 p8
        obtain ⟨r', q6, p10⟩ := Pst.lift p9
        exact ⟨G3, e', f', r', R3.gh, q4, q5, q6, resK_of R3 p10⟩
      | false => exact Pst.use p6 R2 _ (.bl false)
    · cases r <;> first
        | exact (show False from p5).elim
        | (cases o <;> exact (show False from od).elim)
theorem t_chain {op op' : CmpOp} {g h : D → D → Option D} {e3 : Expr} (ha : EE X c W n a ma) (hb : EE X c W n b mb) (hc : EE X c W n e3 mc) (ho : Ctx X c W n → OpR X (compareOp op) (rD2 c g)) (ho' : Ctx X c W n → OpR X (compareOp op') (rD2 c h))
    (hm : lastMarks [op, op'] [b, e3] = false := by with_unfolding_all rfl) : ET X c W n (.Compare a [op, op'] [b, e3] pos) (tst (chain g h ma mb mc)) := fun k => by
  refine ptMono (pt_chain (ho k) (ho' k) (ha k) (hb k) (hc k) hm) fun σ H Q q => ?_
  have q1 := tst_to q
  obtain ⟨F, ρ, G, R, p⟩ := q1
  refine tE_bind R p fun o ρ1 G1 H1 x e1 R1 r1 p1 => tE_bind R1 p1 fun o2 ρ2 G2 H2 y e2 R2 r2 p2 => ?_
  obtain ⟨d, q1, p3⟩ := res_ok R2 (r1.mono e2) p2
  obtain ⟨e, q2, p4⟩ := res_ok R2 r2 p3
  obtain ⟨r, q3, p5⟩ := Pst.lift p4
  refine ⟨G2, d, e, r, R2.gh, q1, q2, q3, fun z rz => ?_, fun q o hq od nd => ?_⟩
  · obtain ⟨t, ez, p6⟩ := asB_ok (H := H2) (.inl rz) p5
    refine ⟨t, ez, ?_⟩
    cases t with
    | true =>
      refine tE_bind R2 p6 fun o3 ρ3 G3 H3 w e3 R3 r3 p7 => ?_
      obtain ⟨e', q4, p8⟩ := res_ok R3 (r2.mono e3) p7
      obtain ⟨f', q5, p9⟩ := res_ok R3 r3 p8
      obtain ⟨r', q6, p10⟩ := Pst.lift p9
      exact ⟨G3, e', f', r', R3.gh, q4, q5, q6, resK_of R3 p10⟩
    | false => exact Pst.use p6 R2 _ (.bl false)
  · cases r <;> first
      | exact (show False from p5).elim
      | (cases o <;> exact (show False from od).elim)

/-! ### and, or, not -/
theorem t_w (h : EW X c W n e ta) : ET X c W n e ta := fun k => (h k).pt
theorem w_and1 (ha : ET X c W n a ta) : EW X c W n (.BoolOp .And [a] pos) ta := fun k => pw_and1 (ha k)
theorem w_or1 (ha : ET X c W n a ta) : EW X c W n (.BoolOp .Or [a] pos) ta := fun k => pw_or1 (ha k)
theorem w_and {rest : List Expr} (ha : ET X c W n a ta) (hb : EW X c W n (.BoolOp .And (b :: rest) pos) tb) : EW X c W n (.BoolOp .And (a :: b :: rest) pos) (andT ta tb) := fun k =>
  pwMono (pw_and (ha k) (hb k)) fun σ H Q ⟨F, ρ, G, R, p⟩ => tT_bind R p fun x ρ1 G1 H1 e1 R1 p1 => by
    cases x with
    | true => exact ⟨F, ρ1, G1, R1, p1⟩
    | false => exact Pst.use p1 R1
theorem w_or {rest : List Expr} (ha : ET X c W n a ta) (hb : EW X c W n (.BoolOp .Or (b :: rest) pos) tb) : EW X c W n (.BoolOp .Or (a :: b :: rest) pos) (orT ta tb) := fun k =>
  pwMono (pw_or (ha k) (hb k)) fun σ H Q ⟨F, ρ, G, R, p⟩ => tT_bind R p fun x ρ1 G1 H1 e1 R1 p1 => by
    cases x with
    | true => exact Pst.use p1 R1
    | false => exact ⟨F, ρ1, G1, R1, p1⟩
theorem t_not (ha : ET X c W n a ta) : ET X c W n (.UnaryOp .Not a pos) (notT ta) := fun k =>
  ptMono (pt_not (ha k)) fun σ H Q ⟨F, ρ, G, R, p⟩ => tT_bind R p fun x ρ1 G1 H1 e1 R1 p1 => Pst.use p1 R1
theorem e_one {op} (h : EE X c W n a ma) : EE X c W n (.BoolOp op [a] pos) ma := fun k => pe_one (h k)
theorem tst_bind {F : Fr} {σ : L2.St} {ρ : Env} {G H : Hp} {β : Type} {f : Bool → M β} {K : β → Env → Hp → Hp → Prop} {Q : V → Hp → Prop} (R : Rel c F ρ σ G H) (h : Pst c F W σ G (bnd (tst m) f ρ) K)
    (k : ∀ x ρ' G' H', Ex G G' → Rel c F ρ' σ G' H' → Pst c F W σ G' (f x ρ') K → Q (.bl x) H') : tE c W m σ H fun x H1 => ∃ t, x = .bl t ∧ Q (.bl t) H1 := by
  have h2 : tT c W (tst m) σ H fun x H' => Q (.bl x) H' := ⟨F, ρ, G, R, Pst.bind h fun x ρ' G' H' e R' p => k x ρ' G' H' e R' p⟩
  exact tst_to h2
theorem e_and {rest : List Expr} (ha : EE X c W n a ma) (hb : EE X c W n (.BoolOp .And (b :: rest) pos) mb) : EE X c W n (.BoolOp .And (a :: b :: rest) pos) (andV ma mb) := fun k =>
  peMono (pe_and (ha k) (hb k)) fun σ H Q ⟨F, ρ, G, R, p⟩ => by
    have h2 : tT c W (tst ma) σ H fun x H' => if x = true then tE c W mb σ H' Q else Q (.bl false) H' := tT_bind R p fun x ρ1 G1 H1 e1 R1 p1 => by
      cases x with
      | true => exact ⟨F, ρ1, G1, R1, p1⟩
      | false => exact Pst.use p1 R1 _ (.bl false)
    exact tst_to h2
theorem e_or {rest : List Expr} (ha : EE X c W n a ma) (hb : EE X c W n (.BoolOp .Or (b :: rest) pos) mb) : EE X c W n (.BoolOp .Or (a :: b :: rest) pos) (orV ma mb) := fun k =>
  peMono (pe_or (ha k) (hb k)) fun σ H Q ⟨F, ρ, G, R, p⟩ => by
    have h2 : tT c W (tst ma) σ H fun x H' => if x = true then Q (.bl true) H' else tE c W mb σ H' Q := tT_bind R p fun x ρ1 G1 H1 e1 R1 p1 => by
      cases x with
      | true => exact Pst.use p1 R1 _ (.bl true)
      | false => exact ⟨F, ρ1, G1, R1, p1⟩
    exact tst_to h2
theorem e_not (ha : EE X c W n a ma) : EE X c W n (.UnaryOp .Not a pos) (notV ma) := fun k =>
  peMono (pe_not (ha k)) fun σ H Q ⟨F, ρ, G, R, p⟩ => by
    have h2 : tT c W (tst ma) σ H fun x H' => Q (.bl (!x)) H' := tT_bind R p fun x ρ1 G1 H1 e1 R1 p1 => Pst.use p1 R1 _ (.bl _)
    exact tst_to h2
theorem e_if {t : Expr} (ht : ET X c W n t ta) (ha : EE X c W n a ma) (hb : EE X c W n b mb) : EE X c W n (.IfExp t a b pos) (iteV ta ma mb) := fun k =>
  peMono (pe_ifExp (ht k) (ha k) (hb k)) fun σ H Q ⟨F, ρ, G, R, p⟩ => tT_bind R p fun x ρ1 G1 H1 e1 R1 p1 => by
    cases x with
    | true => exact ⟨F, ρ1, G1, R1, p1⟩
    | false => exact ⟨F, ρ1, G1, R1, p1⟩

/-! ### rows of operands, displays, built-in functions -/
theorem a_nil : EA X c W n [] (ops []) := fun _ => paMono pa_nil fun σ H Q ⟨F, ρ, G, R, p⟩ => Pst.use p R [] .nil
theorem a_cons {es : List Expr} {ms : List (M Opd)} (ha : EE X c W n a ma) (hr : EA X c W n es (ops ms)) (hs : starEach (a :: es) X.env = (false, eval a X.env) :: starEach es X.env := by rfl) : EA X c W n (a :: es) (ops (ma :: ms)) := fun k =>
  paMono (pa_cons (ha k) (hr k) hs) fun σ H Q ⟨F, ρ, G, R, p⟩ => tE_bind R p fun o ρ1 G1 H1 x e1 R1 r1 p1 => tA_bind R1 p1 fun os ρ2 G2 H2 xs e2 R2 r2 p2 => Pst.use p2 R2 _ (.cons (r1.mono e2) r2)
theorem ops_len : ∀ {ms : List (M Opd)} {ρ ρ' : Env} {os : List Opd}, ops ms ρ = .ok os ρ' → os.length = ms.length
  | [], _, _, _, h => by cases h; rfl
  | m :: ms, ρ, ρ', os, h => by
    have h : (m ρ).next (fun o => bnd (ops ms) fun os => ret (o :: os)) = .ok os ρ' := h
    cases e : m ρ with
    | ok o ρ1 =>
      rw [e] at h
      have h : (ops ms ρ1).next (fun os => ret (o :: os)) = .ok os ρ' := h
      cases e2 : ops ms ρ1 with
      | ok os2 ρ2 =>
        rw [e2] at h
        cases h
        rw [List.length_cons, List.length_cons, ops_len e2]
      | exc x ρ2 => rw [e2] at h; cases h
      | stuck => rw [e2] at h; cases h
    | exc x ρ1 => rw [e] at h; cases h
    | stuck => rw [e] at h; cases h
theorem tA_bindE {σ : L2.St} {G H : Hp} {F : Fr} {ρ : Env} {β : Type} {t : M (List Opd)} {f : List Opd → M β} {K : β → Env → Hp → Hp → Prop} {Q : List V → Hp → Prop} (R : Rel c F ρ σ G H) (h : Pst c F W σ G (bnd t f ρ) K)
    (k : ∀ os ρ' G' H' xs, t ρ = .ok os ρ' → Ex G G' → Rel c F ρ' σ G' H' → Rets c σ G' xs os → Pst c F W σ G' (f os ρ') K → Q xs H') : tA c W t σ H Q := by
  refine ⟨F, ρ, G, R, ?_⟩
  have h : Pst c F W σ G ((t ρ).next f) K := h
  cases e : t ρ with
  | ok os ρ' =>
    rw [e] at h
    exact fun G2 H2 e2 R2 xs r => k os ρ' G2 H2 xs e e2 R2 r (Pst.up e2 (show Pst c F W σ G (f os ρ') K from h))
  | exc x ρ' => rw [e] at h; exact h
  | stuck => rw [e] at h; exact h
theorem Rets.length : ∀ {σ : L2.St} {G : Hp} {xs : List V} {os : List Opd}, Rets c σ G xs os → xs.length = os.length
  | _, _, _, _, .nil => rfl
  | _, _, _, _, .cons _ t => by rw [List.length_cons, List.length_cons, t.length]
theorem e_tup {es : List Expr} {ms : List (M Opd)} {j} (h : EA X c W n es (ops ms)) (hl : ms.length ≤ 1000 := by decide) : EE X c W n (.Tuple es j pos) (tup ms) := fun k =>
  peMono (pe_tup (h k)) fun σ H Q ⟨F, ρ, G, R, p⟩ => tA_bindE R p fun os ρ1 G1 H1 xs eo e1 R1 r1 p1 => by
    obtain ⟨ds, q1, p2⟩ := stabs_ok r1 p1
    refine ⟨by rw [r1.length, ops_len eo]; exact Nat.le_of_lt (small1000 hl), fun q hq => ?_⟩
    exact p2 _ _ (Ex.new (R1.gh.free hq)) (R1.new hq) _ (.tup upd_same (RepA.mono (Ex.new (R1.gh.free hq)) q1))
theorem n_lst {es : List Expr} {ms : List (M Opd)} (h : EA X c W n es (ops ms)) (hl : ms.length ≤ 1000 := by decide) : EN X c W n (.List es pos) (lst ms) := fun k =>
  peMono (pe_lst (h k)) fun σ H Q ⟨F, ρ, G, R, p⟩ => tA_bindE R p fun os ρ1 G1 H1 xs eo e1 R1 r1 p1 => by
    obtain ⟨ds, q1, p2⟩ := stabs_ok r1 p1
    refine ⟨by rw [r1.length, ops_len eo]; exact Nat.le_of_lt (small1000 hl), fun q hq => ?_⟩
    exact p2 _ _ (Ex.refl G1) (R1.hid (o := .lst xs) hq (fun _ z => nomatch z)) _ q rfl (R1.fresh hq (show OD c G1 (.lst xs) (.list ds) from q1))
theorem bnd_val {α : Type} {m : M α} {g : α → M Opd} {ρ : Env} {o : Opd} {ρ' : Env} {P : Opd → Prop} (h : bnd m g ρ = .ok o ρ') (k : ∀ a ρ1, g a ρ1 = .ok o ρ' → P o) : P o := by
  have h : (m ρ).next g = .ok o ρ' := h
  cases e : m ρ with
  | ok a ρ1 => rw [e] at h; exact k a ρ1 h
  | exc x ρ1 => rw [e] at h; cases h
  | stuck => rw [e] at h; cases h
theorem lst_is {ms : List (M Opd)} : ∀ ρ o ρ', lst ms ρ = .ok o ρ' → ∃ ds, o = .val (.list ds) := fun ρ o ρ' h =>
  bnd_val (P := fun o => ∃ ds, o = Opd.val (.list ds)) h fun os ρ1 h => bnd_val (P := fun o => ∃ ds, o = Opd.val (.list ds)) h fun ds ρ2 h => by cases h; exact ⟨_, rfl⟩
theorem e_lst {es : List Expr} {ms : List (M Opd)} (h : EA X c W n es (ops ms)) (hl : ms.length ≤ 1000 := by decide) : EE X c W n (.List es pos) (lst ms) := e_n (n_lst h hl) lst_is

/-- f(e, ..), f a built-in function or a built-in type -/
theorem e_blt {x : Str} {id : String} {p : Pos} {es : List Expr} {ms : List (M Opd)} {g : List D → Option D} (ho : Ctx X c W n → CallR X (.builtin id) (rDN c g)) (ha : EA X c W n (a :: es) (ops ms)) (hm : X.mg x = none) (hv : bootBuiltins x = some (.builtin id)) (hg : Gl X x := by rfl) (hn : x ≠ "__name__" := by decide) (hdb : (x == ("__debug__" : Str)) = false := by decide)
    (he : starEach (a :: es) X.env = (false, eval a X.env) :: starEach es X.env := by rfl) (hpl : (backTo pos (starEach es X.env)).any (·.1) = false := by rfl) : EE X c W n (.Call (.Name x p) (a :: es) [] pos) (eN g ms) := fun k =>
  peMono (pe_callB (ho k) hg hm hv (ha k) hn hdb he hpl) fun σ H Q ⟨F, ρ, G, R, p⟩ => tA_bind R p fun os ρ1 G1 H1 xs e1 R1 r1 p1 => by
    obtain ⟨ds, q1, p2⟩ := ress_ok R1 r1 p1
    obtain ⟨r, q2, p3⟩ := Pst.lift p2
    exact ⟨G1, ds, r, R1.gh, q1, q2, resK_of R1 p3⟩
theorem e_ty {x : Str} {T : String} {p : Pos} {es : List Expr} {ms : List (M Opd)} {g : List D → Option D} (ho : Ctx X c W n → CallR X (.type T) (rDN c g)) (ha : EA X c W n (a :: es) (ops ms)) (hm : X.mg x = none) (hv : bootBuiltins x = some (.type T)) (hg : Gl X x := by rfl) (hn : x ≠ "__name__" := by decide) (hdb : (x == ("__debug__" : Str)) = false := by decide)
    (he : starEach (a :: es) X.env = (false, eval a X.env) :: starEach es X.env := by rfl) (hpl : (backTo pos (starEach es X.env)).any (·.1) = false := by rfl) : EE X c W n (.Call (.Name x p) (a :: es) [] pos) (eN g ms) := fun k =>
  peMono (pe_callTy (ho k) hg hm hv (ha k) hn hdb he hpl) fun σ H Q ⟨F, ρ, G, R, p⟩ => tA_bind R p fun os ρ1 G1 H1 xs e1 R1 r1 p1 => by
    obtain ⟨ds, q1, p2⟩ := ress_ok R1 r1 p1
    obtain ⟨r, q2, p3⟩ := Pst.lift p2
    exact ⟨G1, ds, r, R1.gh, q1, q2, resK_of R1 p3⟩
/-- .. that makes a new object -/
theorem n_blt {x : Str} {id : String} {p : Pos} {es : List Expr} {ms : List (M Opd)} {g : List D → Option D} (ho : Ctx X c W n → CallR X (.builtin id) (rNN c g)) (ha : EA X c W n (a :: es) (ops ms)) (hm : X.mg x = none) (hv : bootBuiltins x = some (.builtin id)) (hg : Gl X x := by rfl) (hn : x ≠ "__name__" := by decide) (hdb : (x == ("__debug__" : Str)) = false := by decide)
    (he : starEach (a :: es) X.env = (false, eval a X.env) :: starEach es X.env := by rfl) (hpl : (backTo pos (starEach es X.env)).any (·.1) = false := by rfl) : EN X c W n (.Call (.Name x p) (a :: es) [] pos) (eN g ms) := fun k =>
  peMono (pe_callB (ho k) hg hm hv (ha k) hn hdb he hpl) fun σ H Q ⟨F, ρ, G, R, p⟩ => tA_bind R p fun os ρ1 G1 H1 xs e1 R1 r1 p1 => by
    obtain ⟨ds, q1, p2⟩ := ress_ok R1 r1 p1
    obtain ⟨r, q2, p3⟩ := Pst.lift p2
    exact ⟨G1, ds, r, R1.gh, q1, q2, resN_of R1 p3⟩
theorem n_ty {x : Str} {T : String} {p : Pos} {es : List Expr} {ms : List (M Opd)} {g : List D → Option D} (ho : Ctx X c W n → CallR X (.type T) (rNN c g)) (ha : EA X c W n (a :: es) (ops ms)) (hm : X.mg x = none) (hv : bootBuiltins x = some (.type T)) (hg : Gl X x := by rfl) (hn : x ≠ "__name__" := by decide) (hdb : (x == ("__debug__" : Str)) = false := by decide)
    (he : starEach (a :: es) X.env = (false, eval a X.env) :: starEach es X.env := by rfl) (hpl : (backTo pos (starEach es X.env)).any (·.1) = false := by rfl) : EN X c W n (.Call (.Name x p) (a :: es) [] pos) (eN g ms) := fun k =>
  peMono (pe_callTy (ho k) hg hm hv (ha k) hn hdb he hpl) fun σ H Q ⟨F, ρ, G, R, p⟩ => tA_bind R p fun os ρ1 G1 H1 xs e1 R1 r1 p1 => by
    obtain ⟨ds, q1, p2⟩ := ress_ok R1 r1 p1
    obtain ⟨r, q2, p3⟩ := Pst.lift p2
    exact ⟨G1, ds, r, R1.gh, q1, q2, resN_of R1 p3⟩

/-! ### statements -/
theorem Pst.flE {F : Fr} {σ : L2.St} {G : Hp} {E : Ends} {α : Type} {r : R α} {f : α → S} {K' : α → Env → Hp → Hp → Prop} (h : PstS c F md W E G (r.fl f))
    (k : ∀ a ρ' G' H', Ex G G' → Rel c F ρ' σ G' H' → PstS c F md W E G' (f a ρ') → K' a ρ' G' H') : Pst c F W σ G r K' := by
  cases r with
  | ok a ρ' => exact fun G2 H2 e2 R => k a ρ' G2 H2 e2 R (PstS.up e2 (show PstS c F md W E G (f a ρ') from h))
  | exc x ρ' => exact fun cl dd G2 H2 e2 R => (show ∀ cls dd σ' G' H', Ex G G' → Rel c F ρ' σ' G' H' → ExcOk c G' x cls dd → W cls dd σ' H' from h) cl dd σ G2 H2 e2 R
  | stuck => exact h
theorem tE_fl {σ : L2.St} {G H : Hp} {F : Fr} {ρ : Env} {E : Ends} {f : Opd → S} {Q : VK} (R : Rel c F ρ σ G H) (h : PstS c F md W E G (exe m f ρ))
    (k : ∀ o ρ' G' H' x, Ex G G' → Rel c F ρ' σ G' H' → Ret c σ G' x o → PstS c F md W E G' (f o ρ') → Q x H') : tE c W m σ H Q :=
  ⟨F, ρ, G, R, Pst.flE h fun o ρ' G' H' ex R' h' x r => k o ρ' G' H' x ex R' r h'⟩
theorem tT_fl {σ : L2.St} {G H : Hp} {F : Fr} {ρ : Env} {E : Ends} {t : M Bool} {f : Bool → S} {Q : Bool → Hp → Prop} (R : Rel c F ρ σ G H) (h : PstS c F md W E G (exe t f ρ))
    (k : ∀ o ρ' G' H', Ex G G' → Rel c F ρ' σ G' H' → PstS c F md W E G' (f o ρ') → Q o H') : tT c W t σ H Q :=
  ⟨F, ρ, G, R, Pst.flE h k⟩
theorem stab_fl {F : Fr} {σ : L2.St} {G : Hp} {ρ : Env} {E : Ends} {x : V} {o : Opd} {f : D → S} (r : Ret c σ G x o) (h : PstS c F md W E G (exe (stab o) f ρ)) : ∃ d, Rep c G x d ∧ o = .val d ∧ PstS c F md W E G (f d ρ) := by
  cases o with
  | val d => exact ⟨d, r, rfl, h⟩
  | bor i => exact (show False from h).elim
theorem res_fl {F : Fr} {σ : L2.St} {G H : Hp} {ρ : Env} {E : Ends} {x : V} {o : Opd} {f : D → S} (R : Rel c F ρ σ G H) (r : Ret c σ G x o) (h : PstS c F md W E G (exe (res o) f ρ)) : ∃ d, ORep c G H x d ∧ PstS c F md W E G (f d ρ) := by
  cases o with
  | val d => exact ⟨d, .inl r, h⟩
  | bor i =>
    have h : PstS c F md W E G ((lift (readOwn i ρ) ρ).fl f) := h
    cases e : readOwn i ρ with
    | none => rw [e] at h; exact (show False from h).elim
    | some d =>
      rw [e] at h
      obtain ⟨k, hs, ho⟩ := readOwn_some e
      obtain ⟨a, e1, _, _, _, _, _, o, e2, od⟩ := R.slot_own hs
      have r' : σ[i]? = some (some x) := r
      rw [e1] at r'
      cases r'
      exact ⟨_, .inr ⟨ho, a, o, rfl, e2, od⟩, h⟩

theorem b_nil : SB X c W n md [] skip := fun _ => pssMono pss_nil fun E σ H ⟨F, ρ, G, R, p⟩ => p σ G H (Ex.refl G) R
theorem b_one {st : Stmt} {s : S} (h : SS X c W n md st s) : SB X c W n md [st] s := fun k => pss_one (h k)
theorem b_cons {st : Stmt} {rest : List Stmt} {s t : S} (h1 : SS X c W n md st s) (h2 : SB X c W n md rest t) : SB X c W n md (st :: rest) (seq s t) := fun k =>
  pssMono (pss_cons (h1 k) (h2 k)) fun E σ H ⟨F, ρ, G, R, p⟩ => by
    refine ⟨F, ρ, G, R, ?_⟩
    have p : PstS c F md W E G (match s ρ with | .next ρ' => t ρ' | f => f) := p
    cases e : s ρ with
    | next ρ' => rw [e] at p; exact fun σ' G' H' ex R' => ⟨F, ρ', G', R', PstS.up ex p⟩
    | brk ρ' => rw [e] at p; exact p
    | cont ρ' => rw [e] at p; exact p
    | rt d ρ' => rw [e] at p; exact p
    | exc x ρ' => rw [e] at p; exact p
    | stuck => rw [e] at p; exact p
theorem s_setV {i : Nat} {x : Str} {pos' : Pos} (he : EE X c W n e m) (hi : X.N[i]? = some x := by rfl) (hx : Loc X.env.scope x := by first | exact Or.inl rfl | exact Or.inr rfl) (hs : swapsWith e (some (.Name x pos')) pos.line X.env = pure false := by rfl)
    (hf : X.fn x = true ∨ X.env.scope.names.lookup x = some .local := by first | exact .inl rfl | exact .inr rfl) : SS X c W n md (.Assign [.Name x pos'] e pos) (setV i m) := fun k =>
  psMono (ps_set k.nd hi hx (he k) hs hf) fun E σ H ⟨F, ρ, G, R, p⟩ => tE_fl R p fun o ρ1 G1 H1 x e1 R1 r1 p1 => by
    obtain ⟨d, q1, _, p2⟩ := stab_fl r1 p1
    exact p2 _ G1 H1 (Ex.refl G1) (R1.setv q1)
theorem s_setO {i : Nat} {x : Str} {pos' : Pos} (he : EN X c W n e m) (hi : X.N[i]? = some x := by rfl) (hx : Loc X.env.scope x := by first | exact Or.inl rfl | exact Or.inr rfl) (hs : swapsWith e (some (.Name x pos')) pos.line X.env = pure false := by rfl)
    (hf : X.fn x = true ∨ X.env.scope.names.lookup x = some .local := by first | exact .inl rfl | exact .inr rfl) : SS X c W n md (.Assign [.Name x pos'] e pos) (setO i m) := fun k =>
  psMono (ps_set k.nd hi hx (he k) hs hf) fun E σ H ⟨F, ρ, G, R, p⟩ => ⟨F, ρ, G, R, Pst.flE p fun o ρ1 G1 H1 ex R1 p1 d q eo fr => by
    subst eo
    exact (show PstS c F md W E G1 (.next (ρ1.set i (.own true d))) from p1) _ G1 H1 (Ex.refl G1) (R1.seto fr)⟩
theorem s_drop (he : EE X c W n e m) (hs : swapsWith e none pos.line X.env = pure false := by rfl) : SS X c W n md (.Expr e pos) (drop m) := fun k =>
  psMono (ps_expr (he k) hs) fun E σ H ⟨F, ρ, G, R, p⟩ => tE_fl R p fun o ρ1 G1 H1 x e1 R1 r1 p1 => p1 σ G1 H1 (Ex.refl G1) R1
theorem s_doc {z : Str} {j pos'} : SS X c W n md (.Expr (.Constant (.str z) j pos) pos') skip := fun _ => psMono ps_doc fun E σ H ⟨F, ρ, G, R, p⟩ => p σ G H (Ex.refl G) R
theorem s_pass : SS X c W n md (.Pass pos) skip := fun _ => psMono ps_pass fun E σ H ⟨F, ρ, G, R, p⟩ => p σ G H (Ex.refl G) R
theorem s_brk : SS X c W n md (.Break pos) brkS := fun _ => psMono ps_break fun E σ H ⟨F, ρ, G, R, p⟩ => p σ G H (Ex.refl G) R
theorem s_cont : SS X c W n md (.Continue pos) contS := fun _ => psMono ps_continue fun E σ H ⟨F, ρ, G, R, p⟩ => p σ G H (Ex.refl G) R
theorem s_ret (he : EE X c W n e m) : SS X c W n false (.Return (some e) pos) (retS m) := fun k =>
  psMono (ps_ret (he k)) fun E σ H ⟨F, ρ, G, R, p⟩ => tE_fl R p fun o ρ1 G1 H1 x e1 R1 r1 p1 => by
    obtain ⟨d, q1, _, p2⟩ := stab_fl r1 p1
    exact p2 x σ G1 H1 (Ex.refl G1) R1 q1
theorem s_retN (he : EN X c W n e m) : SS X c W n true (.Return (some e) pos) (retS m) := fun k =>
  psMono (ps_ret (he k)) fun E σ H ⟨F, ρ, G, R, p⟩ => ⟨F, ρ, G, R, Pst.flE p fun o ρ1 G1 H1 ex R1 p1 d q eo fr => by
    subst eo
    exact (show PstS c F true W E G1 (.rt d ρ1) from p1) _ σ G1 H1 (Ex.refl G1) R1 ⟨q, rfl, fr.g, fr.b, fr.x, fr.n, fr.o⟩⟩
theorem s_retO (i : Nat) {x : Str} {pos' : Pos} (hN : X.N[i]? = some x := by rfl) (hv : Vis X.env.scope x := by first | exact Or.inl rfl | exact Or.inr (Or.inl rfl) | exact Or.inr (Or.inr rfl)) (hd : (x == ("__debug__" : Str)) = false := by decide)
    (hcd : (x == ("__classdict__" : Str)) = false := by decide) : SS X c W n true (.Return (some (.Name x pos')) pos) (retO i) := fun k =>
  psMono (ps_ret (pe_var hN hv hd hcd)) fun E σ H ⟨F, ρ, G, R, p⟩ => by
    unfold retO at p
    split at p
    · rename_i d hs
      obtain ⟨a, h1, g1, b1, x1, n1, _, o1⟩ := R.slot_own hs
      exact ⟨_, h1, p _ σ G H (Ex.refl G) R ⟨a, rfl, g1, b1, x1, n1 rfl, o1⟩⟩
    · exact (show False from p).elim
theorem s_if {t : Expr} {st su : List Stmt} {s u : S} (ht : ET X c W n t ta) (h1 : SB X c W n md st s) (h2 : SB X c W n md su u) : SS X c W n md (.If t st su pos) (ifS ta s u) := fun k =>
  psMono (ps_if (ht k) (h1 k) (h2 k)) fun E σ H ⟨F, ρ, G, R, p⟩ => tT_fl R p fun x ρ1 G1 H1 e1 R1 p1 => by
    cases x with
    | true => exact ⟨F, ρ1, G1, R1, p1⟩
    | false => exact ⟨F, ρ1, G1, R1, p1⟩
theorem s_while {t : Expr} {st : List Stmt} {s : S} (ht : ET X c W n t ta) (h1 : SB X c W n md st s) : SS X c W n md (.While t st [] pos) (whileS ta s) := fun k =>
  psMono (ps_while k.po (ht k) (h1 k)) fun E σ H ⟨F, ρ, G, R, p⟩ => by
    have ne : whileS ta s ρ ≠ .stuck := fun z => by rw [z] at p; exact p
    obtain ⟨m0, hm0⟩ := whileS_ne ne
    refine ⟨fun m σ H => ∃ ρ G f, Rel c F ρ σ G H ∧ whileF ta s m ρ = some f ∧ PstS c F md W E G f, ⟨m0, ρ, G, _, R, hm0, p⟩, fun m σ H ⟨ρ, G, f, R, hf, p⟩ => ?_⟩
    cases m with
    | zero => simp [whileF] at hf
    | succ m =>
      refine ⟨F, ρ, G, R, ?_⟩
      unfold whileF at hf
      cases ht : ta ρ with
      | ok x ρ1 =>
        rw [ht] at hf
        refine fun G1 H1 e1 R1 => ?_
        cases x with
        | true =>
          rw [if_pos rfl]
          refine ⟨fun σ' H' => ∃ m', m' < m + 1 ∧ ∃ ρ G f, Rel c F ρ σ' G H' ∧ whileF ta s m' ρ = some f ∧ PstS c F md W E G f, fun σ' H' h => h, F, ρ1, G1, R1, ?_⟩
          simp only at hf
          cases hs : s ρ1 with
          | next ρ2 => rw [hs] at hf; exact fun σ2 G2 H2 e2 R2 => ⟨m, Nat.lt_succ_self m, ρ2, G2, f, R2, hf, PstS.up (e1.trans e2) p⟩
          | cont ρ2 => rw [hs] at hf; exact fun σ2 G2 H2 e2 R2 => ⟨m, Nat.lt_succ_self m, ρ2, G2, f, R2, hf, PstS.up (e1.trans e2) p⟩
          | brk ρ2 => rw [hs] at hf; cases hf; exact PstS.up e1 p
          | rt d ρ2 => rw [hs] at hf; cases hf; exact PstS.up e1 p
          | exc x ρ2 => rw [hs] at hf; cases hf; exact PstS.up e1 p
          | stuck => rw [hs] at hf; cases hf; exact (show False from p).elim
        | false =>
          rw [if_neg Bool.false_ne_true]
          cases hf
          exact p _ _ _ e1 R1
      | exc x ρ1 =>
        rw [ht] at hf
        cases hf
        exact fun cl dd G1 H1 e1 R1 => p cl dd σ G1 H1 e1 R1
      | stuck => rw [ht] at hf; cases hf; exact p
end
end Dn


/-! Dn4: targets, what a for walks, loops, comprehensions. -/
namespace Dn
open PySem L2

section
variable {X : Cx} {c : Kc} {W : WX} {n : Nat} {md : Bool} {e a b : Expr} {m ma mb mc : M Opd} {ta tb : M Bool} {pos : Pos}

/-! ### targets -/
/-- the slots that a target takes -/
def tgS : Tg → List Nat
  | .nm j => [j]
  | .tp js => js
def Agr (js : List Nat) (σ σ' : L2.St) : Prop := σ'.length = σ.length ∧ ∀ j, j ∉ js → σ'[j]? = σ[j]?
theorem Agr.refl (js : List Nat) (σ : L2.St) : Agr js σ σ := ⟨rfl, fun _ _ => rfl⟩
theorem Agr.trans {js ks : List Nat} {σ σ1 σ2 : L2.St} (h : Agr js σ σ1) (h' : Agr ks σ1 σ2) (a : ∀ j ∈ js, j ∈ ks) : Agr ks σ σ2 := ⟨h'.1.trans h.1, fun j hj => (h'.2 j hj).trans (h.2 j fun z => hj (a j z))⟩
theorem Agr.set {js : List Nat} {σ : L2.St} {j : Nat} {u : Option V} (h : j ∈ js) : Agr js σ (σ.set j u) := ⟨by rw [List.length_set], fun k hk => List.getElem?_set_ne fun e => hk (by rw [← e]; exact h)⟩
def tG (c : Kc) (t : Tg) : TG := fun x σ H Q => ∃ F ρ G d ρ', Rel c F ρ σ G H ∧ ORep c G H x d ∧ tg t d ρ = some ρ' ∧ ∀ σ', Rel c F ρ' σ' G H → Agr (tgS t) σ σ' → Q σ' H
def GT (X : Cx) (c : Kc) (e : Expr) (t : Tg) : Prop := c.K = X.K → X.calm = true → PG X e (tG c t)
theorem pgMono {X : Cx} {e : Expr} {t t' : TG} (h : PG X e t) (k : ∀ x σ H Q, t' x σ H Q → t x σ H Q) : PG X e t' := ⟨fun pins s σ H x u Q I r q => h.run pins s σ H x u Q I r (k x σ H Q q)⟩
theorem pgOr {X : Cx} {e : Expr} {t t' : TG} (h : PG X e t) (h' : PG X e t') : PG X e (fun x σ H Q => t x σ H Q ∨ t' x σ H Q) := ⟨fun pins s σ H x u Q I r q => q.elim (h.run pins s σ H x u Q I r) (h'.run pins s σ H x u Q I r)⟩
/-- an object that is read is known or will be: what a name takes must be known -/
def Known (t : Tg) (d : D) : Prop := True
theorem orep_tup {G H : Hp} {x : V} {ds : List D} {K : PySem.W.Frag} (hK : c.K = K) (ex : Ex G H) (h : ORep c G H x (.tuple ds)) : ∃ a xs, x = .ref a ∧ SqT K H a xs ∧ RepA c G xs ds := by
  rcases h with h | ⟨ho, _⟩
  · cases h with
    | tup h1 h2 => exact ⟨_, _, rfl, .inl (.inl (ex _ _ h1)), h2⟩
    | ktup h1 h2 _ => exact ⟨_, _, rfl, .inr (hK ▸ h1), h2⟩
  · cases ho
theorem orep_sum {G H : Hp} {x : V} {ds : List D} {K : PySem.W.Frag} (hK : c.K = K) (ex : Ex G H) (h : ORep c G H x (fzD ds)) : ∃ a xs, x = .ref a ∧ FzT H a xs ∧ RepA c G xs ds := by
  rcases h with h | ⟨_, a, o, e, h1, h2⟩
  · cases h with
    | sm h1 h2 => exact ⟨_, _, rfl, h1.ex ex, h2⟩
  · exact absurd rfl (od_no h2 _)
theorem orep_lst {G H : Hp} {x : V} {ds : List D} {K : PySem.W.Frag} (hK : c.K = K) (ex : Ex G H) (h : ORep c G H x (.list ds)) : ∃ a xs, x = .ref a ∧ SqL K H a xs ∧ RepA c G xs ds := by
  rcases h with h | ⟨_, a, o, e, h1, h2⟩
  · cases h with
    | lst h1 h2 => exact ⟨_, _, rfl, hK ▸ sqEx ex h1, h2⟩
  · cases o with
    | lst xs => exact ⟨a, xs, e, .inl (.inl h1), h2⟩
    | _ => exact (show False from h2).elim
theorem orep_int {G H : Hp} {x : V} {i : Int} (h : ORep c G H x (.int i)) : x = .int i := by
  rcases h with h | ⟨ho, _⟩
  · cases h; rfl
  · cases ho
theorem orep_bl {G H : Hp} {x : V} {i : Bool} (h : ORep c G H x (.bool i)) : x = .bl i := by
  rcases h with h | ⟨ho, _⟩
  · cases h; rfl
  · cases ho
theorem orep_str {G H : Hp} {x : V} {i : Str} (h : ORep c G H x (.str i)) : x = .str i := by
  rcases h with h | ⟨ho, _⟩
  · cases h; rfl
  · cases ho
theorem orep_non {G H : Hp} {x : V} (h : ORep c G H x .none) : x = .non := by
  rcases h with h | ⟨ho, _⟩
  · cases h; rfl
  · cases ho

def gNames : List Nat → TGs
  | [] => gNil
  | j :: js => gCons (gName j) (gNames js)
theorem gNames_ok {F : Fr} {G H : Hp} : ∀ {js : List Nat} {ds : List D} {xs : List V} {ρ ρ' : Env} {σ : L2.St} {Q : L2.St → Hp → Prop}, Rel c F ρ σ G H → RepA c G xs ds → putAll js ds ρ = some ρ' →
    (∀ σ', Rel c F ρ' σ' G H → Agr js σ σ' → Q σ' H) → gNames js xs σ H Q
  | [], [], _, ρ, ρ', σ, Q, R, r, h, k => by
    cases r
    cases h
    exact ⟨rfl, k σ R (Agr.refl _ _)⟩
  | [], d :: ds, _, ρ, ρ', σ, Q, R, r, h, k => by cases h
  | j :: js, [], _, ρ, ρ', σ, Q, R, r, h, k => by cases h
  | j :: js, d :: ds, _, ρ, ρ', σ, Q, R, r, h, k => by
    cases r with
    | cons r1 r2 => exact ⟨_, _, rfl, gNames_ok (R.setv r1) r2 h fun σ' R' ag => k σ' R' ((Agr.set (List.mem_cons_self)).trans (js := j :: js) ⟨ag.1, fun z hz => ag.2 z fun w => hz (List.mem_cons_of_mem _ w)⟩ fun _ z => z)⟩
/-- the target of a loop over known items -/
def tGk (c : Kc) (t : Tg) : TG := fun x σ H Q => ∃ F ρ G d ρ', Rel c F ρ σ G H ∧ Rep c G x d ∧ tg t d ρ = some ρ' ∧ ∀ σ', Rel c F ρ' σ' G H → Agr (tgS t) σ σ' → Q σ' H
def GK (X : Cx) (c : Kc) (e : Expr) (t : Tg) : Prop := c.K = X.K → X.calm = true → PG X e (tGk c t)
theorem g_nm {j : Nat} {x : Str} (hN : X.N.Nodup) (hi : X.N[j]? = some x := by rfl) (hx : Loc X.env.scope x := by first | exact Or.inl rfl | exact Or.inr rfl)
    (hf : X.fn x = true ∨ X.env.scope.names.lookup x = some .local := by first | exact .inl rfl | exact .inr rfl) : GK X c (.Name x pos) (.nm j) := fun _ _ =>
  pgMono (pg_name hN hi hx hf) fun y σ H Q ⟨F, ρ, G, d, ρ', R, r, e, k⟩ => by
    cases e
    exact k _ (R.setv r) (Agr.set (List.mem_singleton.mpr rfl))
theorem gs_nil : PGs X [] (gNames []) := pgs_nil
theorem gs_cons {j : Nat} {js : List Nat} {x : Str} {es : List Expr} (hN : X.N.Nodup) (h : PGs X es (gNames js)) (hi : X.N[j]? = some x := by rfl) (hx : Loc X.env.scope x := by first | exact Or.inl rfl | exact Or.inr rfl)
    (hf : X.fn x = true ∨ X.env.scope.names.lookup x = some .local := by first | exact .inl rfl | exact .inr rfl) (hs : (assignEach (.Name x pos :: es) X.env).map (·.2) = assign (.Name x pos) X.env :: (assignEach es X.env).map (·.2) := by rfl) : PGs X (.Name x pos :: es) (gNames (j :: js)) :=
  pgs_cons (pg_name hN hi hx hf) h hs
/-- a, b, .. = ..: a tuple, or a list -/
theorem pg_seq {es : List Expr} {k : Nat} {js : List Nat} (hc : X.calm = true) (hK : c.K = X.K) (h : PGs X es (gNames js))
    (hn : (assignEach es X.env).length = js.length := by rfl) (hst : (assignEach es X.env).findIdx? (·.1) = none := by rfl) : PG X (.Tuple es k pos) (tG c (.tp js)) :=
  pgMono (pgOr (pg_tup hc h hn hst) (pg_lst hc h hn hst)) fun y σ H Q ⟨F, ρ, G, d, ρ', R, r, e, kk⟩ => by
    have len : ∀ {ds : List D} {ρ ρ' : Env} {js : List Nat}, putAll js ds ρ = some ρ' → ds.length = js.length := by
      intro ds
      induction ds with
      | nil => intro ρ ρ' js h; cases js with
        | nil => rfl
        | cons j js => cases h
      | cons d ds ih => intro ρ ρ' js h; cases js with
        | nil => cases h
        | cons j js => rw [List.length_cons, List.length_cons, ih (show putAll js ds (ρ.set j (.val d)) = some ρ' from h)]
    cases d with
    | tuple ds =>
      have e : putAll js ds ρ = some ρ' := e
      obtain ⟨a, xs, h1, h2, h3⟩ := orep_tup hK R.gh r
      exact .inl ⟨a, xs, h1, h2, by rw [h3.length, len e], gNames_ok R h3 e kk⟩
    | list ds =>
      have e : putAll js ds ρ = some ρ' := e
      obtain ⟨a, xs, h1, h2, h3⟩ := orep_lst hK R.gh r
      exact .inr ⟨a, xs, h1, h2, by rw [h3.length, len e], gNames_ok R h3 e kk⟩
    | dict ps =>
      have hi : (∃ ds, ps = [(.none, .tuple ds)]) ∨ items (.dict ps) = none := by
        unfold items
        split
        · rename_i z; cases z
        · rename_i z; cases z
        · rename_i z; cases z; exact .inl ⟨_, rfl⟩
        · exact .inr rfl
      rcases hi with ⟨ds, rfl⟩ | hi
      · have e : putAll js ds ρ = some ρ' := e
        obtain ⟨a, xs, h1, h2, h3⟩ := orep_sum hK R.gh r
        exact .inl ⟨a, xs, h1, h2.sq, by rw [h3.length, len e], gNames_ok R h3 e kk⟩
      · have e : (items (.dict ps)).bind (fun ds => putAll js ds ρ) = some ρ' := e
        rw [hi] at e
        cases e
    | _ => cases e
theorem g_tp {es : List Expr} {k : Nat} {js : List Nat} (h : PGs X es (gNames js)) (hn : (assignEach es X.env).length = js.length := by rfl) (hst : (assignEach es X.env).findIdx? (·.1) = none := by rfl) : GK X c (.Tuple es k pos) (.tp js) := fun hK hc =>
  pgMono (pg_seq hc hK h hn hst) fun y σ H Q ⟨F, ρ, G, d, ρ', R, r, e, kk⟩ => ⟨F, ρ, G, d, ρ', R, .inl r, e, kk⟩
/-- a, b, .. = e -/
theorem s_setT {es : List Expr} {k : Nat} {js : List Nat} {pos' : Pos} (he : EE X c W n e m) (h : PGs X es (gNames js)) (hn : (assignEach es X.env).length = js.length := by rfl) (hst : (assignEach es X.env).findIdx? (·.1) = none := by rfl)
    (hs : swapsWithSole [.Tuple es k pos'] e pos.line X.env = pure false := by rfl) (hw : swappedStores [.Tuple es k pos'] e X.env = pure none := by rfl) (h1 : (assignEach [.Tuple es k pos'] X.env).map (·.2) = [assign (.Tuple es k pos') X.env] := by rfl) :
    SS X c W n md (.Assign [.Tuple es k pos'] e pos) (setT (.tp js) m) := fun k =>
  psMono (ps_asg (he k) (pg_seq k.calm k.hK h hn hst) hs hw h1) fun E σ H ⟨F, ρ, G, R, p⟩ => tE_fl R p fun o ρ1 G1 H1 x e1 R1 r1 p1 => by
    obtain ⟨d, q1, p2⟩ := res_fl R1 r1 p1
    have p2 : PstS c F md W E G1 (match tg (.tp js) d ρ1 with | some ρ' => .next ρ' | none => .stuck) := p2
    cases et : tg (.tp js) d ρ1 with
    | none => rw [et] at p2; exact p2.elim
    | some ρ' =>
      rw [et] at p2
      exact ⟨F, ρ1, G1, d, ρ', R1, q1, et, fun σ' R' _ => p2 σ' G1 H1 (Ex.refl G1) R'⟩

/-! ### what is walked -/
/-- the iterator J yields the items it, one after another, as long as P holds -/
def Yl (c : Kc) (J : It) (it : Item) (fin : Env → Bool) (N : Nat) (G0 : Hp) (P : Fr → L2.St → Prop) : Prop :=
  ∀ (F : Fr) (ρ : Env) (σ : L2.St) (G H : Hp), Ex G0 G → Rel c F ρ σ G H → P F σ →
    (∀ k d, k < N → it k ρ = some d → J.go k H ∧ ∀ x H', J.yld k H x H' → ∃ G', Ex G G' ∧ Rel c F ρ σ G' H' ∧ Rep c G' x d ∧ (∀ p o, H p = some o → G p = none → H' p = some o ∧ G' p = none)) ∧ (fin ρ = true → J.stop N H)
def tI (c : Kc) (W : WX) (im : M (List D)) : TI := fun σ H Q => ∃ F ρ G, Rel c F ρ σ G H ∧ Pst c F W σ G (im ρ) fun ds _ G' H' => ∀ J, Yl c J (ofL ds) always ds.length G' (fun _ _ => True) → Q J H'
def IT (X : Cx) (c : Kc) (W : WX) (n : Nat) (t e : Expr) (im : M (List D)) : Prop := Ctx X c W n → PI X t e (tI c W im)
/-- the loop, from where it walks -/
theorem for_run {F : Fr} {ρ : Env} {σ : L2.St} {G H : Hp} {t : Tg} {tgt : Expr} {body : S} {E : Ends} {J : It} {it : Item} {fin : Env → Bool} {N : Nat} {tb : TS} {g : TG} {P : Fr → L2.St → Prop}
    (R : Rel c F ρ σ G H) (hY : Yl c J it fin N G P) (hP : ∀ F' σ', F' = F → P F' σ') (hg : ∀ x σ H Q, tGk c t x σ H Q → g x σ H Q) (hb : ∀ E σ H, tS c W md body E σ H → tb E σ H)
    (p : PstS c F md W E G (forN it fin t body N 0 ρ)) :
    ∃ W' : Nat → Nat → L2.St → Hp → Prop, (∃ m, W' 0 m σ H) ∧ ∀ i m σ H, W' i m σ H →
      (J.stop i H ∧ E.nx σ H) ∨ (J.go i H ∧ ∃ Nx : L2.St → Hp → Prop, (∀ σ' H', Nx σ' H' → ∃ m', m' < m ∧ W' (i + 1) m' σ' H') ∧ ∀ x H', J.yld i H x H' → g x σ H' fun σ2 H2 => tb { E with nx := Nx, ct := Nx, bk := E.nx } σ2 H2) := by
  refine ⟨fun i m σ H => m + i = N ∧ ∃ ρ G', Ex G G' ∧ Rel c F ρ σ G' H ∧ PstS c F md W E G' (forN it fin t body m i ρ), ⟨N, by omega, ρ, G, Ex.refl G, R, p⟩, ?_⟩
  rintro i m σ H ⟨hm, ρ, G1, e1, R1, p1⟩
  obtain ⟨y1, y2⟩ := hY F ρ σ G1 H e1 R1 (hP F σ rfl)
  cases m with
  | zero =>
    have ei : i = N := by omega
    subst ei
    have p1 : PstS c F md W E G1 (if fin ρ then .next ρ else .stuck) := p1
    cases hf : fin ρ with
    | false => rw [hf] at p1; exact (show False from p1).elim
    | true =>
      rw [hf] at p1
      exact .inl ⟨y2 hf, p1 σ G1 H (Ex.refl G1) R1⟩
  | succ m =>
    have p1 : PstS c F md W E G1 (match it i ρ with
      | none => .stuck
      | some d => match tg t d ρ with
        | none => .stuck
        | some ρ1 => match body ρ1 with
          | .next ρ2 => forN it fin t body m (i + 1) ρ2
          | .cont ρ2 => forN it fin t body m (i + 1) ρ2
          | .brk ρ2 => .next ρ2
          | f => f) := p1
    cases hi : it i ρ with
    | none => rw [hi] at p1; exact (show False from p1).elim
    | some d =>
      rw [hi] at p1
      cases ht : tg t d ρ with
      | none => simp only [ht] at p1; exact (show False from p1).elim
      | some ρ1 =>
        simp only [ht] at p1
        obtain ⟨g1, g2⟩ := y1 i d (by omega) hi
        refine .inr ⟨g1, fun σ' H' => ∃ ρ G', Ex G G' ∧ Rel c F ρ σ' G' H' ∧ PstS c F md W E G' (forN it fin t body m (i + 1) ρ), fun σ' H' h => ⟨m, Nat.lt_succ_self m, by omega, h⟩, fun x H' hy => ?_⟩
        obtain ⟨G2, e2, R2, r2, _⟩ := g2 x H' hy
        refine hg _ _ _ _ ⟨F, ρ, G2, d, ρ1, R2, r2, ht, fun σ' R' _ => hb _ _ _ ⟨F, ρ1, G2, R', ?_⟩⟩
        cases hs : body ρ1 with
        | next ρ2 => rw [hs] at p1; exact fun σ3 G3 H3 e3 R3 => ⟨ρ2, G3, e1.trans (e2.trans e3), R3, PstS.up (e2.trans e3) p1⟩
        | cont ρ2 => rw [hs] at p1; exact fun σ3 G3 H3 e3 R3 => ⟨ρ2, G3, e1.trans (e2.trans e3), R3, PstS.up (e2.trans e3) p1⟩
        | brk ρ2 => rw [hs] at p1; exact PstS.up e2 p1
        | rt d ρ2 => rw [hs] at p1; exact PstS.up e2 p1
        | exc x ρ2 => rw [hs] at p1; exact PstS.up e2 p1
        | stuck => rw [hs] at p1; exact p1.elim
theorem s_for {tgt iter : Expr} {st : List Stmt} {s : S} {t : Tg} {im : M (List D)} (hi : IT X c W n tgt iter im) (hg : GK X c tgt t) (h1 : SB X c W n md st s) (hs : ∀ x, foldedSetIterable iter X.env x = pure x := by intro _; rfl) : SS X c W n md (.For tgt iter st [] pos) (forI im t s) := fun k =>
  psMono (ps_for k.po k.calm (hi k) (hg k.hK k.calm) (h1 k) hs) fun E σ H ⟨F, ρ, G, R, p⟩ => ⟨F, ρ, G, R, Pst.flE p fun ds ρ1 G1 H1 e1 R1 p1 J hJ =>
    for_run (tgt := tgt) R1 hJ (fun _ _ _ => trivial) (fun _ _ _ _ z => z) (fun _ _ _ z => z) p1⟩

/-- a list or a tuple that is known -/
def iAny (K : PySem.W.Frag) (tl : TE) : TI := fun σ H Q => tl σ H fun x H1 => ∃ a, x = .ref a ∧ (((∃ xs, SqL K H1 a xs) ∧ Q (Itl K a) H1) ∨ ((∃ xs, SqT K H1 a xs) ∧ Q (Itt K a) H1))
theorem pi_any {tgt l : Expr} {tl : TE} (hl : PE X l tl) : PI X tgt l (iAny X.K tl) := by
  refine ⟨fun pins s σ H Q I h => ?_⟩
  refine thn (hl.run pins s σ H _ I h) fun u s1 ⟨x, H1, I1, r1, q1⟩ => ?_
  obtain ⟨a, ex, q⟩ := q1
  subst ex
  have hc : ∀ v : V, PE X l (tC v) → True := fun _ _ => trivial
  have aux : ∀ {w : TI}, PI X tgt (.Constant .none 0 ⟨0, 0, 0, 0⟩) w → True := fun _ => trivial
  rcases q with ⟨⟨xs, hq⟩, q⟩ | ⟨⟨xs, hq⟩, q⟩
  · cases r1
    obtain ⟨its, rv, p, hz⟩ := I1.list hq
    refine wpAny_pyIter_list p.isList ?_
    refine ⟨s1.heap.objs.size, [s1.heap.objs.size], _, _, H1, rfl, I1.kept (t' := s1.toks) fun b o e => Heap.get?_push_of_some _ e, turn_list a _, ⟨_, Heap.get?_push_size _ rfl, rfl, rfl⟩, fun b hb => ?_, q⟩
    have e : b = s1.heap.objs.size := by simpa using hb
    subst e
    exact I1.fpOk (Nat.le_refl _) (I1.hok.fresh (Nat.le_refl _))
  · cases r1
    obtain ⟨its, rv, p, hz⟩ := I1.tuple hq
    refine wpAny_pyIter_tuple (show s1.heap.IsTuple a its.toArray from p) ?_
    refine ⟨s1.heap.objs.size, [s1.heap.objs.size], _, _, H1, rfl, I1.kept (t' := s1.toks) fun b o e => Heap.get?_push_of_some _ e, turn_tuple a _, ⟨_, Heap.get?_push_size _ rfl, rfl, rfl⟩, fun b hb => ?_, q⟩
    have e : b = s1.heap.objs.size := by simpa using hb
    subst e
    exact I1.fpOk (Nat.le_refl _) (I1.hok.fresh (Nat.le_refl _))
/-- the items of a value that is known -/
def itemsM (m : M Opd) : M (List D) := bnd m fun o => bnd (stab o) fun d => lift (items d)
theorem yl_lst {K : PySem.W.Frag} {G0 : Hp} {a : Addr} {xs : List V} {ds : List D} (hK : c.K = K) (h1 : SqL K G0 a xs) (h2 : RepA c G0 xs ds) : Yl c (Itl K a) (ofL ds) always ds.length G0 (fun _ _ => True) := by
  intro F ρ σ G H e R _
  have hq : SqL K H a xs := sqEx R.gh (sqEx e h1)
  refine ⟨fun k d hk hd => ?_, fun _ => ⟨xs, hq, by rw [h2.length]; exact Nat.le_refl _⟩⟩
  obtain ⟨x, hx, rx⟩ := h2.get hd
  refine ⟨⟨xs, x, hq, hx⟩, fun y H' hy => ?_⟩
  obtain ⟨rfl, hy⟩ := hy
  have ey := hy xs hq
  rw [hx] at ey
  cases ey
  exact ⟨G, Ex.refl G, R, Rep.mono e rx, fun p o h1 h2 => ⟨h1, h2⟩⟩
theorem sqT_ex {K : PySem.W.Frag} {H H' : Hp} {a : Addr} {xs : List V} (e : Ex H H') (h : SqT K H a xs) : SqT K H' a xs := by
  rcases h with (h | ⟨o, h⟩) | h
  · exact .inl (.inl (e _ _ h))
  · exact .inl (.inr ⟨o, e _ _ h⟩)
  · exact .inr h
theorem yl_tup {K : PySem.W.Frag} {G0 : Hp} {a : Addr} {xs : List V} {ds : List D} (hK : c.K = K) (h1 : SqT K G0 a xs) (h2 : RepA c G0 xs ds) : Yl c (Itt K a) (ofL ds) always ds.length G0 (fun _ _ => True) := by
  intro F ρ σ G H e R _
  have hq : SqT K H a xs := sqT_ex R.gh (sqT_ex e h1)
  refine ⟨fun k d hk hd => ?_, fun _ => ⟨xs, hq, by rw [h2.length]; exact Nat.le_refl _⟩⟩
  obtain ⟨x, hx, rx⟩ := h2.get hd
  refine ⟨⟨xs, x, hq, hx⟩, fun y H' hy => ?_⟩
  obtain ⟨rfl, hy⟩ := hy
  have ey := hy xs hq
  rw [hx] at ey
  cases ey
  exact ⟨G, Ex.refl G, R, Rep.mono e rx, fun p o h1 h2 => ⟨h1, h2⟩⟩
theorem i_any {tgt : Expr} (he : EE X c W n e m) : IT X c W n tgt e (itemsM m) := fun k =>
  piMono (pi_any (he k)) fun σ H Q ⟨F, ρ, G, R, p⟩ => tE_bind R p fun o ρ1 G1 H1 x e1 R1 r1 p1 => by
    obtain ⟨d, q1, p2⟩ := stab_ok (H := H1) r1 p1
    cases d with
    | list ds =>
      have p2 : Pst c F W σ G1 (.ok ds ρ1) _ := p2
      have q := Pst.use p2 R1
      cases q1 with
      | lst h1 h2 => exact ⟨_, rfl, .inl ⟨⟨_, k.hK ▸ sqEx R1.gh h1⟩, q _ (yl_lst k.hK (k.hK ▸ h1) h2)⟩⟩
    | tuple ds =>
      have p2 : Pst c F W σ G1 (.ok ds ρ1) _ := p2
      have q := Pst.use p2 R1
      cases q1 with
      | tup h1 h2 => exact ⟨_, rfl, .inr ⟨⟨_, .inl (.inl (R1.gh _ _ h1))⟩, q _ (yl_tup k.hK (.inl (.inl h1)) h2)⟩⟩
      | ktup h1 h2 _ => exact ⟨_, rfl, .inr ⟨⟨_, .inr (k.hK ▸ h1)⟩, q _ (yl_tup k.hK (.inr (k.hK ▸ h1)) h2)⟩⟩
    | dict ps =>
      cases q1 with
      | sm h1 h2 =>
        have p2 : Pst c F W σ G1 (.ok _ ρ1) _ := p2
        have q := Pst.use p2 R1
        exact ⟨_, rfl, .inr ⟨⟨_, (h1.ex R1.gh).sq⟩, q _ (yl_tup k.hK h1.sq h2)⟩⟩
    | _ => exact (show False from p2).elim
/-- range(n), range(lo, n) -/
def rangeL (lo hi : Int) : List D := (List.range (hi - lo).toNat).map fun (k : Nat) => .int (lo + (k : Int))
def asI : D → Option Int
  | .int i => some i
  | _ => none
def small (i : Int) : Bool := decide (-(2 ^ 62) ≤ i) && decide (i < 2 ^ 62)
def range1 : List D → Option (List D)
  | [.int j] => if small j then some (rangeL 0 j) else none
  | _ => none
def range2 : List D → Option (List D)
  | [.int i, .int j] => if small i && small j then some (rangeL i j) else none
  | _ => none
def rangeM (g : List D → Option (List D)) (ms : List (M Opd)) : M (List D) := bnd (ops ms) fun os => bnd (ress os) fun ds => lift (g ds)
theorem yl_range {G0 : Hp} {lo hi : Int} : Yl c (Itr lo (hi - lo).toNat) (ofL (rangeL lo hi)) always (rangeL lo hi).length G0 (fun _ _ => True) := by
  intro F ρ σ G H e R _
  have hl : (rangeL lo hi).length = (hi - lo).toNat := by unfold rangeL; rw [List.length_map, List.length_range]
  rw [hl]
  refine ⟨fun k d hk hd => ⟨hk, fun x H' hy => ?_⟩, fun _ => Nat.le_refl _⟩
  obtain ⟨rfl, rfl⟩ := hy
  have ed : d = .int (lo + (k : Int)) := by
    have hd : (rangeL lo hi)[k]? = some d := hd
    unfold rangeL at hd
    rw [List.getElem?_map, List.getElem?_range hk] at hd
    exact (Option.some.inj hd).symm
  subst ed
  exact ⟨G, Ex.refl G, R, .int _, fun p o h1 h2 => ⟨h1, h2⟩⟩
theorem small_ok {i : Int} (h : small i = true) : -(2 ^ 62) ≤ i ∧ i < 2 ^ 62 := by
  unfold small at h
  rw [Bool.and_eq_true] at h
  exact ⟨of_decide_eq_true h.1, of_decide_eq_true h.2⟩
theorem i_range1 {tgt : Expr} {p : Pos} {m : M Opd} (ha : EE X c W n a m) (hm : X.mg "range" = none) (hg : Gl X "range" := by rfl) (hs : starEach [a] X.env = [(false, eval a X.env)] := by rfl) : IT X c W n tgt (.Call (.Name "range" p) [a] [] pos) (rangeM range1 [m]) := fun k =>
  piMono (pi_range1 hg hm (a_cons ha a_nil hs k) hs) fun σ H Q ⟨F, ρ, G, R, p⟩ => tA_bind R p fun os ρ1 G1 H1 xs e1 R1 r1 p1 => by
    obtain ⟨ds, q1, p2⟩ := ress_ok R1 r1 p1
    cases e : range1 ds with
    | none => rw [e] at p2; exact (show False from p2).elim
    | some rs =>
      rw [e] at p2
      unfold range1 at e
      split at e
      · rename_i j
        split at e
        · rename_i hj
          cases e
          have q := Pst.use p2 R1
          cases q1 with
          | cons r2 r3 =>
            cases r3
            rw [orep_int r2]
            obtain ⟨s1, s2⟩ := small_ok hj
            refine ⟨j, rfl, s1, s2, ?_⟩
            have y := q _ (yl_range (c := c) (G0 := G1) (lo := 0) (hi := j))
            rw [Int.sub_zero] at y
            exact y
        · cases e
      · cases e
theorem i_range2 {tgt : Expr} {p : Pos} (ha : EE X c W n a ma) (hb : EE X c W n b mb) (hm : X.mg "range" = none) (hg : Gl X "range" := by rfl) (hs : starEach [a, b] X.env = [(false, eval a X.env), (false, eval b X.env)] := by rfl) (hs2 : starEach [b] X.env = [(false, eval b X.env)] := by rfl) :
    IT X c W n tgt (.Call (.Name "range" p) [a, b] [] pos) (rangeM range2 [ma, mb]) := fun k =>
  piMono (pi_range2 hg hm (a_cons ha (a_cons hb a_nil hs2) (by rw [hs, hs2]) k) hs hs2) fun σ H Q ⟨F, ρ, G, R, p⟩ => tA_bind R p fun os ρ1 G1 H1 xs e1 R1 r1 p1 => by
    obtain ⟨ds, q1, p2⟩ := ress_ok R1 r1 p1
    cases e : range2 ds with
    | none => rw [e] at p2; exact (show False from p2).elim
    | some rs =>
      rw [e] at p2
      unfold range2 at e
      split at e
      · rename_i i j
        split at e
        · rename_i hj
          cases e
          rw [Bool.and_eq_true] at hj
          have q := Pst.use p2 R1
          cases q1 with
          | cons r2 r3 =>
            cases r3 with
            | cons r4 r5 =>
              cases r5
              rw [orep_int r2, orep_int r4]
              obtain ⟨s1, s2⟩ := small_ok hj.1
              obtain ⟨s3, s4⟩ := small_ok hj.2
              exact ⟨i, j, rfl, ⟨s1, s2, s3, s4⟩, q _ yl_range⟩
        · cases e
      · cases e
end
end Dn


/-! Dn5: comprehensions, loops over what a slot owns, changes, calls, defs. -/
namespace Dn
open PySem L2

section
variable {c : Kc} {F : Fr} {ρ : Env} {σ : L2.St} {G H G' H' : Hp} {i : Nat} {d : D} {x : V} {p a q : Addr} {o o' : HO}
/-- a new object is put under guard -/
def Fr.prot (F : Fr) (q : Addr) (o : HO) : Fr := { F with B := upd F.B q o, X := fun a => F.X a ∨ a = q }
theorem Rel.prot (R : Rel c F ρ σ G H) (f : Fresh c F ρ σ G H q d) (h : H q = some o) : Rel c (F.prot q o) ρ σ G H := by
  refine ⟨R.len, R.gh, fun a u e => ?_, fun a z => ?_, fun a z => ?_, R.nh, fun i s z => ?_, R.dj, R.tk⟩
  · have e : upd F.B q o a = some u := e
    by_cases ea : a = q
    · subst ea; rw [upd_same] at e; cases e; exact h
    · rw [upd_ne ea] at e; exact R.bh a u e
  · rcases z with z | z
    · exact R.xg a z
    · rw [z]; exact f.g
  · rcases z with z | z
    · exact R.xh a z
    · rw [z, h]; exact fun y => nomatch y
  · obtain ⟨u, e, y⟩ := R.sl i s z
    refine ⟨u, e, ?_⟩
    cases s with
    | un => trivial
    | val d0 => cases u with
      | none => exact y.elim
      | some _ => exact y
    | own k d0 => cases u with
      | none => exact y.elim
      | some v0 => cases v0 with
        | ref a =>
          obtain ⟨y1, y2, y3, y4⟩ := y
          have ne : a ≠ q := fun ee => by subst ee; exact f.sl i k d0 z e
          exact ⟨y1, by show upd F.B q o a = none; rw [upd_ne ne]; exact y2, fun w => w.elim y3 ne, y4⟩
        | _ => exact y.elim
/-- .. and, changed, comes back -/
theorem Rel.unprot {d' : D} (R : Rel c (F.prot q o) ρ σ G H) (b1 : F.B q = none) (x1 : ¬ F.X q) (n1 : F.N q) (od : OD c G o' d') (nt : NT o') : Rel c F ρ σ G (upd H q o') ∧ Fresh c F ρ σ G (upd H q o') q d' := by
  have hq : H q = some o := R.bh q o upd_same
  have gq : G q = none := R.xg q (.inr rfl)
  have nz : ∀ {a}, H a ≠ none → upd H q o' a ≠ none := fun {a} z => by
    by_cases e : a = q
    · subst e; rw [upd_same]; exact fun y => nomatch y
    · rw [upd_ne e]; exact z
  have noslot : ∀ (i : Nat) (k : Bool) (e : D), ρ[i]? = some (.own k e) → σ[i]? ≠ some (some (.ref q)) := fun i k e z y => by
    obtain ⟨a, h1, _, h2, h3, _⟩ := R.slot_own z
    rw [y] at h1
    cases h1
    exact h3 (.inr rfl)
  refine ⟨⟨R.len, R.gh.mut gq, fun a u e => ?_, fun a z => R.xg a (.inl z), fun a z => nz (R.xh a (.inl z)), fun a z => nz (R.nh a z), fun i s z => ?_, R.dj, fun b ks e => ?_⟩, ⟨gq, b1, x1, n1, ⟨o', upd_same, od⟩, noslot⟩⟩
  · have ne : a ≠ q := fun ee => by subst ee; rw [b1] at e; cases e
    rw [upd_ne ne]
    exact R.bh a u (by show upd F.B q o a = some u; rw [upd_ne ne]; exact e)
  · obtain ⟨u, e, y⟩ := R.sl i s z
    refine ⟨u, e, ?_⟩
    cases s with
    | un => trivial
    | val d0 => cases u with
      | none => exact y.elim
      | some _ => exact y
    | own k d0 => cases u with
      | none => exact y.elim
      | some v0 => cases v0 with
        | ref a =>
          obtain ⟨y1, y2, y3, y4, y5, o2, y6, y7⟩ := y
          have ne : a ≠ q := fun ee => by subst ee; exact noslot i k d0 z e
          have y2 : upd F.B q o a = none := y2
          rw [upd_ne ne] at y2
          exact ⟨y1, y2, fun w => y3 (.inl w), y4, y5, o2, by rw [upd_ne ne]; exact y6, y7⟩
        | _ => exact y.elim
  · by_cases e1 : b = q
    · subst e1; rw [upd_same] at e; cases e; exact absurd rfl (nt _)
    · rw [upd_ne e1] at e; exact R.tk b ks e
theorem upd_id (h : H q = some o) : upd H q o = H := by
  funext a
  by_cases e : a = q
  · subst e; rw [upd_same, h]
  · rw [upd_ne e]
/-- the names of a block are forgotten -/
theorem Rel.wipe (R : Rel c F ρ σ G H) : ∀ js : List Nat, Rel c F (wipeD ρ js) (wipe σ js) G H
  | [] => R
  | j :: js => (Rel.wipe R js).setun
theorem wipe_idem (σ : L2.St) (js : List Nat) : L2.wipe (L2.wipe σ js) js = L2.wipe σ js := by
  have g : ∀ (js : List Nat) (j : Nat), j ∈ js → ∀ σ : L2.St, j < σ.length → (L2.wipe σ js)[j]? = some none := by
    intro js
    induction js with
    | nil => intro j h; cases h
    | cons k ks ih =>
      intro j h σ hl
      show ((L2.wipe σ ks).set k none)[j]? = some none
      by_cases e : k = j
      · subst e; exact List.getElem?_set_self (by rw [wipe_length]; exact hl)
      · rw [List.getElem?_set_ne e]
        rcases List.mem_cons.mp h with z | z
        · exact absurd z.symm e
        · exact ih j z σ hl
  apply List.ext_getElem?
  intro j
  by_cases hl : j < σ.length
  · by_cases hj : j ∈ js
    · rw [g js j hj _ (by rw [wipe_length]; exact hl), g js j hj σ hl]
    · rw [wipe_out hj]
  · rw [List.getElem?_eq_none (by rw [wipe_length, wipe_length]; omega), List.getElem?_eq_none (by rw [wipe_length]; omega)]
theorem backD_at {ρ ρ1 ρ2 : Env} {k : Nat} (h : ρ1[k]? = ρ2[k]?) (hl : ρ1.length = ρ2.length) : ∀ js : List Nat, (backD ρ ρ1 js)[k]? = (backD ρ ρ2 js)[k]? ∧ (backD ρ ρ1 js).length = (backD ρ ρ2 js).length
  | [] => ⟨h, hl⟩
  | j :: js => by
    obtain ⟨h1, h2⟩ := backD_at (ρ := ρ) h hl js
    unfold backD
    refine ⟨?_, by rw [List.length_set, List.length_set, h2]⟩
    by_cases e : j = k
    · subst e
      by_cases hj : j < (backD ρ ρ1 js).length
      · rw [List.getElem?_set_self hj, List.getElem?_set_self (by rw [← h2]; exact hj)]
      · rw [List.getElem?_eq_none (by rw [List.length_set]; omega), List.getElem?_eq_none (by rw [List.length_set]; omega)]
    · rw [List.getElem?_set_ne e, List.getElem?_set_ne e, h1]
theorem set_same {α : Type} {l : List α} {j : Nat} {y : α} (h : l[j]? = some y) : l.set j y = l := by
  apply List.ext_getElem?
  intro k
  by_cases e : j = k
  · subst e
    rw [List.getElem?_set_self (List.getElem?_eq_some_iff.mp h).1, h]
  · rw [List.getElem?_set_ne e]
theorem set_over {α : Type} {l : List α} {j : Nat} {y : α} (h : l.length ≤ j) : l.set j y = l := by
  apply List.ext_getElem?
  intro k
  by_cases e : j = k
  · subst e
    rw [List.getElem?_eq_none (by rw [List.length_set]; exact h), List.getElem?_eq_none h]
  · rw [List.getElem?_set_ne e]
/-- the names of the frame come back: where the block had its own -/
theorem Rel.back (R0 : Rel c F ρ σ G H) (e : Ex G G') : ∀ {js : List Nat} {ρ' : Env} {σ' : L2.St}, Rel c F ρ' σ' G' H' → σ'.length = σ.length → (∀ j, j ∉ js → σ'[j]? = σ[j]?) → Rel c F (backD ρ ρ' js) σ G' H'
  | [], ρ', σ', R, hl, hs => by
    have es : σ' = σ := List.ext_getElem? fun j => hs j (by simp)
    subst es
    exact R
  | j :: js, ρ', σ', R, hl, hs => by
    have lr : ρ.length = σ.length := R0.len
    have lr' : ρ'.length = σ'.length := R.len
    by_cases hj : j < σ.length
    · obtain ⟨u, hu⟩ : ∃ u, σ[j]? = some u := ⟨_, List.getElem?_eq_getElem hj⟩
      have R2 : Rel c F (ρ'.set j .un) (σ'.set j u) G' H' := R.setun
      have R3 := Rel.back R0 e (js := js) R2 (by rw [List.length_set]; exact hl) fun k hk => by
        by_cases ek : j = k
        · subst ek; rw [List.getElem?_set_self (by omega), hu]
        · rw [List.getElem?_set_ne ek]; exact hs k (fun z => (List.mem_cons.mp z).elim (fun w => ek w.symm) hk)
      have same : ∀ s : Slot, (backD ρ (ρ'.set j .un) js).set j s = (backD ρ ρ' js).set j s := fun s => by
        have len := (backD_at (ρ := ρ) (ρ1 := ρ'.set j .un) (ρ2 := ρ') (k := ρ'.length) (by rw [List.getElem?_eq_none (by rw [List.length_set]; omega), List.getElem?_eq_none (by omega)]) (by rw [List.length_set]) js).2
        apply List.ext_getElem?
        intro k
        by_cases ek : j = k
        · subst ek
          by_cases hk : j < (backD ρ ρ' js).length
          · rw [List.getElem?_set_self (by omega), List.getElem?_set_self hk]
          · rw [List.getElem?_eq_none (by rw [List.length_set]; omega), List.getElem?_eq_none (by rw [List.length_set]; omega)]
        · rw [List.getElem?_set_ne ek, List.getElem?_set_ne ek]
          exact (backD_at (by rw [List.getElem?_set_ne ek]) (by rw [List.length_set]) js).1
      show Rel c F ((backD ρ ρ' js).set j (match ρ[j]? with | some (.val d) => .val d | _ => .un)) σ G' H'
      rw [← same]
      split
      · rename_i d hd
        obtain ⟨y, hy, ry⟩ := R0.slot_val hd
        have R4 := R3.setv (i := j) (Rep.mono e ry)
        rw [set_same hy] at R4
        exact R4
      · have R4 := R3.setun (i := j) (u := u)
        rw [set_same hu] at R4
        exact R4
    · have R3 := Rel.back R0 e (js := js) R hl fun k hk => by
        by_cases ek : j = k
        · subst ek
          rw [List.getElem?_eq_none (by omega), List.getElem?_eq_none (by omega)]
        · exact hs k (fun z => (List.mem_cons.mp z).elim (fun w => ek w.symm) hk)
      show Rel c F ((backD ρ ρ' js).set j _) σ G' H'
      rw [set_over (by have := R3.len; omega)]
      exact R3
end

section
variable {X : Cx} {c : Kc} {W : WX} {n : Nat} {md : Bool} {e a b : Expr} {m ma mb mc : M Opd} {ta tb : M Bool} {pos : Pos}
abbrev W0 : WX := fun _ _ _ _ => False
def ETs (X : Cx) (c : Kc) (W : WX) (n : Nat) (es : List Expr) (m : M Bool) : Prop := Ctx X c W n → PTs X es (tT c W m)
def yes : M Bool := ret true
theorem ts_nil : ETs X c W n [] yes := fun _ => ⟨fun pins s σ H Q I ⟨F, ρ, G, R, p⟩ => pts_nil.run pins s σ H Q I (Pst.use p R)⟩
theorem ts_one {t : Expr} (h : ET X c W n t ta) : ETs X c W n [t] ta := fun k => pts_one (h k)
/-- the block of a comprehension, as any of its runs sees it -/
structure Blk (X : Cx) (c : Kc) (n : Nat) (scope : Scope) (tgt : Expr) (t : Tg) (ifs : List Expr) (ts : M Bool) (elt : Expr) (el : M Opd) : Prop where
  g : ∀ (s : Shared) (H : Hp) (C : Addr) (cl : List (Str × Addr)) (fp : List Addr), GK (X.blk s H scope (compEnvC scope cl C X.env) fp) c tgt t
  t : ∀ (s : Shared) (H : Hp) (C : Addr) (cl : List (Str × Addr)) (fp : List Addr), ETs (X.blk s H scope (compEnvC scope cl C X.env) fp) c W0 n ifs ts
  e : ∀ (s : Shared) (H : Hp) (C : Addr) (cl : List (Str × Addr)) (fp : List Addr), EE (X.blk s H scope (compEnvC scope cl C X.env) fp) c W0 n elt el
theorem Ctx.blk {s : Shared} {H : Hp} {scope : Scope} {C : Addr} {cl : List (Str × Addr)} {fp : List Addr} (k : Ctx X c W n) : Ctx (X.blk s H scope (compEnvC scope cl C X.env) fp) c W0 n :=
  ⟨k.hK, k.calm, k.nd, PassesOwn.never, takes0, k.room⟩
theorem wipe_agr {σ σ' : L2.St} {ks js : List Nat} (h : Agr ks (wipe σ js) σ') (hk : ∀ j ∈ ks, j ∈ js) : wipe σ' js = wipe σ js := by
  apply List.ext_getElem?
  intro j
  by_cases hj : j ∈ js
  · have g : ∀ (σ : L2.St) (js : List Nat), j ∈ js → j < σ.length → (wipe σ js)[j]? = some none := by
      intro σ js
      induction js with
      | nil => intro h; cases h
      | cons k ks ih =>
        intro h hl
        show ((wipe σ ks).set k none)[j]? = some none
        by_cases e : k = j
        · subst e; exact List.getElem?_set_self (by rw [wipe_length]; exact hl)
        · rw [List.getElem?_set_ne e]
          rcases List.mem_cons.mp h with z | z
          · exact absurd z.symm e
          · exact ih z hl
    have hl : σ'.length = σ.length := by rw [h.1, wipe_length]
    by_cases hh : j < σ.length
    · rw [g σ' js hj (by omega), g σ js hj hh]
    · rw [List.getElem?_eq_none (by rw [wipe_length]; omega), List.getElem?_eq_none (by rw [wipe_length]; omega)]
  · rw [wipe_out hj, h.2 j fun z => hj (hk j z)]
/-- a comprehension's loop, from where it walks -/
theorem lc_run {F : Fr} {ρ : Env} {σ : L2.St} {G H : Hp} {t : Tg} {js : List Nat} {ts : M Bool} {el : M Opd} {J : It} {it : Item} {fin : Env → Bool} {N : Nat} {g : TG} {tt : TT} {te : TE} {P : Fr → L2.St → Prop} {Q : VK} {q : Addr}
    (R : Rel c F ρ σ G H) (hY : Yl c J it fin N G P) (hP : ∀ F' : Fr, F'.io = F.io → P F' (wipe σ js)) (hq : H q = none) (hN : N ≤ 100000)
    (hg : ∀ x σ H Q, tGk c t x σ H Q → g x σ H Q) (ht : ∀ σ H Q, tT c W0 ts σ H Q → tt σ H Q) (he : ∀ σ H Q, tE c W0 el σ H Q → te σ H Q)
    (hj : ∀ j ∈ tgS t, j ∈ js)
    {rs : List D} {ρe : Env} (p : lcN it fin t js ts el N 0 [] (wipeD ρ js) = .ok rs ρe)
    (hQ : ∀ G' H', Ex G G' → Rel c F (backD ρ ρe js) σ G' H' → Fresh c F (backD ρ ρe js) σ G' H' q (.list rs) → Q (.ref q) H') :
    ∃ W' : Nat → Nat → Hp → Prop, (∃ m, W' 0 m (upd H q (.lst []))) ∧ ∀ i m H, W' i m H →
      (J.stop i H ∧ Q (.ref q) H) ∨ (J.go i H ∧ ∃ Nx : Hp → Prop, (∀ H', Nx H' → ∃ m', m' < m ∧ W' (i + 1) m' H') ∧ ∀ x H', J.yld i H x H' → g x (wipe σ js) H' fun σ2 H2 => wipe σ2 js = wipe σ js ∧ tt σ2 H2 fun b H3 =>
        if b = true then te σ2 H3 fun y H4 => ∃ acc, H4 q = some (.lst acc) ∧ acc.length < sizeLine ∧ Nx (upd H4 q (.lst (acc ++ [y]))) else Nx H3) := by
  have b1 : F.B q = none := R.bh.free hq
  have x1 : ¬ F.X q := fun z => R.xh q z hq
  have n1 : F.N q := Classical.byContradiction fun z => R.nh q z hq
  -- what stands between two turns
  let St : Nat → Nat → Hp → Prop := fun i m H => m + i = N ∧ ∃ ρ' G' accV acc, Ex G G' ∧ Rel c F ρ' (wipe σ js) G' H ∧ Fresh c F ρ' (wipe σ js) G' H q (.list acc) ∧ H q = some (.lst accV) ∧ RepA c G' accV acc ∧ acc.length ≤ i ∧
    lcN it fin t js ts el m i acc ρ' = .ok rs ρe
  refine ⟨St, ⟨N, by omega, wipeD ρ js, G, [], [], Ex.refl G, (R.wipe js).hid hq (fun _ z => nomatch z), (R.wipe js).fresh hq (show OD c G (.lst []) (.list []) from .nil), upd_same, .nil, Nat.le_refl _, p⟩, ?_⟩
  rintro i m H ⟨hm, ρ', G1, accV, acc, e1, R1, f1, hqq, ra, hl, p1⟩
  obtain ⟨y1, y2⟩ := hY (F.prot q (.lst accV)) ρ' (wipe σ js) G1 H e1 (R1.prot f1 hqq) (hP _ rfl)
  cases m with
  | zero =>
    have ei : i = N := by omega
    subst ei
    have p1 : (if fin ρ' then Dn.R.ok acc ρ' else .stuck) = .ok rs ρe := p1
    cases hf : fin ρ' with
    | false => rw [hf] at p1; cases p1
    | true =>
      rw [hf] at p1
      cases p1
      have Rb := R.back e1 (js := js) R1 (wipe_length _ _) fun j hj => wipe_out hj
      refine .inl ⟨y2 hf, hQ G1 H e1 Rb ⟨f1.g, f1.b, f1.x, f1.n, f1.o, fun j k e hz => ?_⟩⟩
      -- no slot holds the new list: an own slot of the frame behind is one of the block's
      intro hs
      obtain ⟨a, h1, _, _, _, _, _, o, ho, _⟩ := Rb.slot_own hz
      rw [hs] at h1
      cases h1
      have ne : j ∉ js := fun hjj => by
        have : ∀ (js : List Nat), j ∈ js → ∀ k e, (backD ρ ρe js)[j]? ≠ some (.own k e) := by
          intro js
          induction js with
          | nil => intro h; cases h
          | cons l ls ih =>
            intro h k e z
            have z : ((backD ρ ρe ls).set l (match ρ[l]? with | some (.val d) => .val d | _ => .un))[j]? = some (.own k e) := z
            by_cases el : l = j
            · subst el
              rcases getElem?_set z with ⟨_, z, _⟩ | ⟨z, _⟩
              · split at z <;> cases z
              · exact z rfl
            · rw [List.getElem?_set_ne el] at z
              rcases List.mem_cons.mp h with w | w
              · exact el w.symm
              · exact ih w k e z
        exact this js hjj k e hz
      have hz' : ρe[j]? = some (.own k e) := by
        have : ∀ (js : List Nat), j ∉ js → (backD ρ ρe js)[j]? = ρe[j]? := by
          intro js
          induction js with
          | nil => intro _; rfl
          | cons l ls ih =>
            intro h
            show ((backD ρ ρe ls).set l _)[j]? = _
            rw [List.getElem?_set_ne (fun z => h (by rw [z]; exact List.mem_cons_self))]
            exact ih fun z => h (List.mem_cons_of_mem _ z)
        rw [← this js ne]; exact hz
      exact f1.sl j k e hz' (by rw [wipe_out ne]; exact hs)
  | succ m =>
    have p1 : (match it i ρ' with
      | none => (.stuck : Dn.R (List D))
      | some d => match tg t d ρ' with
        | none => .stuck
        | some ρ1 => (ts ρ1).next fun x => if x
          then fun ρ2 => ((bnd el stab) ρ2).next (fun y ρ3 => lcN it fin t js ts el m (i + 1) (acc ++ [y]) (wipeD ρ3 js))
          else fun ρ2 => lcN it fin t js ts el m (i + 1) acc (wipeD ρ2 js)) = .ok rs ρe := p1
    cases hi : it i ρ' with
    | none => rw [hi] at p1; cases p1
    | some d =>
      rw [hi] at p1
      cases htg : tg t d ρ' with
      | none => simp only [htg] at p1; cases p1
      | some ρ1 =>
        simp only [htg] at p1
        obtain ⟨g1, g2⟩ := y1 i d (by omega) hi
        refine .inr ⟨g1, St (i + 1) m, fun H' h => ⟨m, Nat.lt_succ_self m, h⟩, fun x H' hy => ?_⟩
        obtain ⟨G2, e2, R2, r2, _⟩ := g2 x H' hy
        refine hg _ _ _ _ ⟨_, ρ', G2, d, ρ1, R2, r2, htg, fun σ2 R3 ag => ?_⟩
        have ws := wipe_agr ag hj
        refine ⟨ws, ht _ _ _ ⟨_, ρ1, G2, R3, ?_⟩⟩
        cases hts : ts ρ1 with
        | ok tx ρ2 =>
          rw [hts] at p1
          refine fun G3 H3 e3 R4 => ?_
          cases tx with
          | false =>
            rw [if_neg Bool.false_ne_true]
            have p1 : lcN it fin t js ts el m (i + 1) acc (wipeD ρ2 js) = .ok rs ρe := p1
            have hq3 : H3 q = some (.lst accV) := R4.bh q _ upd_same
            have R5 := R4.wipe js
            rw [ws] at R5
            obtain ⟨R6, f6⟩ := R5.unprot (o' := .lst accV) (d' := .list acc) b1 x1 n1 (show RepA c G3 accV acc from ra.mono (e2.trans e3)) (fun _ z => nomatch z)
            rw [upd_id hq3] at R6 f6
            exact ⟨by omega, wipeD ρ2 js, G3, accV, acc, e1.trans (e2.trans e3), R6, f6, hq3, ra.mono (e2.trans e3), by omega, p1⟩
          | true =>
            rw [if_pos rfl]
            have p1 : ((bnd el stab) ρ2).next (fun y ρ3 => lcN it fin t js ts el m (i + 1) (acc ++ [y]) (wipeD ρ3 js)) = .ok rs ρe := p1
            refine he _ _ _ ⟨_, ρ2, G3, R4, ?_⟩
            have p2 : ((el ρ2).next stab).next (fun y ρ3 => lcN it fin t js ts el m (i + 1) (acc ++ [y]) (wipeD ρ3 js)) = .ok rs ρe := p1
            cases hel : el ρ2 with
            | ok o ρ3 =>
              rw [hel] at p2
              refine fun G4 H4 e4 R5 y ry => ?_
              cases o with
              | bor j => cases p2
              | val dy =>
                have p2 : lcN it fin t js ts el m (i + 1) (acc ++ [dy]) (wipeD ρ3 js) = .ok rs ρe := p2
                have hq4 : H4 q = some (.lst accV) := R5.bh q _ upd_same
                have ra4 := ra.mono (e2.trans (e3.trans e4))
                have R6 := R5.wipe js
                rw [ws] at R6
                obtain ⟨R7, f7⟩ := R6.unprot (o' := .lst (accV ++ [y])) (d' := .list (acc ++ [dy])) b1 x1 n1 (show RepA c G4 (accV ++ [y]) (acc ++ [dy]) from ra4.append (.one ry)) (fun _ z => nomatch z)
                refine ⟨accV, hq4, ?_, by omega, wipeD ρ3 js, G4, accV ++ [y], acc ++ [dy], e1.trans (e2.trans (e3.trans e4)), R7, f7, upd_same, ra4.append (.one ry), by rw [List.length_append]; simp; omega, p2⟩
                rw [ra.length]
                exact Nat.lt_of_le_of_lt (Nat.le_trans hl (by omega : i ≤ 100000)) (by decide)
            | exc x ρ3 => rw [hel] at p2; cases p2
            | stuck => rw [hel] at p2; cases p2
        | exc x ρ2 => rw [hts] at p1; cases p1
        | stuck => rw [hts] at p1; cases p1
theorem n_lc {tgt iter elt : Expr} {ifs : List Expr} {scope : Scope} {own : List (Str × Nat)} {t : Tg} {im : M (List D)} {ts : M Bool} {el : M Opd} (hi : IT X c W n tgt iter im) (hb : Blk X c n scope tgt t ifs ts elt el)
    (ok : blkC X.N X.env.scope scope own = true) (hj : ∀ j ∈ tgS t, j ∈ own.map (·.2) := by decide) (hs : ∀ x, foldedSetIterable iter X.env x = pure x := by intro _; rfl) :
    EN X c W n (.ListComp elt [⟨tgt, iter, ifs, 0⟩] scope pos) (lcI im t (own.map (·.2)) ts el) := fun k =>
  peMono (pe_lc k.calm k.nd (hi k) (blkOk_by ok) (fun s H C cl fp => hb.g s H C cl fp k.hK k.calm) (fun s H C cl fp => hb.t s H C cl fp k.blk) (fun s H C cl fp => hb.e s H C cl fp k.blk) hs) fun σ H Q ⟨F, ρ, G, R, p⟩ =>
    ⟨F, ρ, G, R, Pst.bind p fun ds ρ1 G1 H1 e1 R1 p1 J hJ q hq => by
      have p1 : Pst c F W σ G1 (if ds.length ≤ 100000 then (match lcN (ofL ds) always t (own.map (·.2)) ts el ds.length 0 [] (wipeD ρ1 (own.map (·.2))) with
        | .ok rs ρ' => Dn.R.ok (Opd.val (.list rs)) (backD ρ1 ρ' (own.map (·.2)))
        | _ => .stuck)
        else .stuck) _ := p1
      by_cases hN : ds.length ≤ 100000
      · rw [if_pos hN] at p1
        split at p1
        · rename_i rs ρ' heq
          exact lc_run R1 hJ (fun _ _ => trivial) hq hN (fun _ _ _ _ z => z) (fun _ _ _ z => z) (fun _ _ _ z => z) hj heq fun G2 H2 e2 R2 f2 => p1 G2 H2 e2 R2 _ q rfl f2
        · exact (show False from p1).elim
      · rw [if_neg hN] at p1
        exact (show False from p1).elim⟩
theorem lcI_is {im : M (List D)} {t : Tg} {js : List Nat} {ts : M Bool} {el : M Opd} : ∀ ρ o ρ', lcI im t js ts el ρ = .ok o ρ' → ∃ ds, o = .val (.list ds) := fun ρ o ρ' h =>
  bnd_val (P := fun o => ∃ ds, o = Opd.val (.list ds)) h fun ds ρ1 h => by
    unfold lcO at h
    split at h
    · split at h
      · cases h; exact ⟨_, rfl⟩
      · cases h
    · cases h
theorem e_lc {tgt iter elt : Expr} {ifs : List Expr} {scope : Scope} {own : List (Str × Nat)} {t : Tg} {im : M (List D)} {ts : M Bool} {el : M Opd} (hi : IT X c W n tgt iter im) (hb : Blk X c n scope tgt t ifs ts elt el)
    (ok : blkC X.N X.env.scope scope own = true) (hj : ∀ j ∈ tgS t, j ∈ own.map (·.2) := by decide) (hs : ∀ x, foldedSetIterable iter X.env x = pure x := by intro _; rfl) :
    EE X c W n (.ListComp elt [⟨tgt, iter, ifs, 0⟩] scope pos) (lcI im t (own.map (·.2)) ts el) := e_n (n_lc hi hb ok hj hs) lcI_is
end
end Dn


/-! Dn6: calls of defs, defs by their bodies. -/
namespace Dn
open PySem L2

section
variable {c : Kc} {F : Fr} {ρ : Env} {σ : L2.St} {G H G' H' : Hp} {i : Nat} {d : D} {x : V} {p a q : Addr} {o o' : HO}

/-! ### what has no list within does not lean on a list -/
mutual
theorem Rep.imm (hk : ∀ b xs, G b = some (.tup xs) → G' b = some (.tup xs)) : ∀ {v : V} {d : D}, Rep c G v d → imm d = true → Rep c G' v d
  | _, _, .non, _ => .non
  | _, _, .bl b, _ => .bl b
  | _, _, .int i, _ => .int i
  | _, _, .str x, _ => .str x
  | _, _, .lst _ _, h => by simp [Dn.imm] at h
  | _, _, .tup h a, hi => .tup (hk _ _ h) (RepA.imm hk a (by simpa [Dn.imm] using hi))
  | _, _, .ktup h a k, hi => .ktup h (RepA.imm hk a (by simpa [Dn.imm] using hi)) k
  | _, _, .sm _ _, h => by simp [Dn.imm] at h
theorem RepA.imm (hk : ∀ b xs, G b = some (.tup xs) → G' b = some (.tup xs)) : ∀ {vs : List V} {ds : List D}, RepA c G vs ds → imms ds = true → RepA c G' vs ds
  | _, _, .nil, _ => .nil
  | _, _, .cons h a, hi => by
    have hi : (Dn.imm _ && imms _) = true := hi
    rw [Bool.and_eq_true] at hi
    exact .cons (h.imm hk hi.1) (a.imm hk hi.2)
end
theorem imm_paired {α : Type} {f : α → D} {kvs : List (α × V)} {ps : List (D × D)} (hk : ∀ b xs, G b = some (.tup xs) → G' b = some (.tup xs)) (h : Paired (fun (kv : α × V) (p : D × D) => p.1 = f kv.1 ∧ Rep c G kv.2 p.2) kvs ps) (hi : (ps.all fun p => Dn.imm p.2) = true) :
    Paired (fun (kv : α × V) (p : D × D) => p.1 = f kv.1 ∧ Rep c G' kv.2 p.2) kvs ps := by
  have hi := List.all_eq_true.mp hi
  induction h with
  | nil => exact .nil
  | cons h1 t ih => exact .cons ⟨h1.1, h1.2.imm hk (hi _ List.mem_cons_self)⟩ (ih (List.all_eq_true.mpr fun p hp => hi p (List.mem_cons_of_mem _ hp)) fun p hp => hi p (List.mem_cons_of_mem _ hp))
theorem OD.imm (hk : ∀ b xs, G b = some (.tup xs) → G' b = some (.tup xs)) (h : OD c G o d) (hi : immO d = true) : OD c G' o d := by
  cases o <;> cases d <;> first
    | exact (show False from h).elim
    | exact RepA.imm hk (show RepA c G _ _ from h) hi
    | skip
  · exact imm_paired hk h (show List.all _ (fun (p : D × D) => Dn.imm p.2) = true from hi)
  · obtain ⟨qs, e, h2⟩ := h
    subst e
    have hi := (show List.all _ (fun (p : D × D) => Dn.imm p.2) = true from hi)
    rw [List.all_cons, Bool.and_eq_true] at hi
    exact ⟨qs, rfl, imm_paired (f := fun k : List Key => PyData.tuple (k.map keyD)) hk h2 hi.2⟩

/-! ### a def's promise -/
/-- what a def hands back -/
def RetD (c : Kc) (F : Fr) (md : Bool) (G' H' : Hp) (x : V) (d : D) : Prop :=
  if md = true then ∃ p, x = .ref p ∧ G' p = none ∧ F.B p = none ∧ ¬ F.X p ∧ F.N p ∧ ∃ o, H' p = some o ∧ OD c G' o d else Rep c G' x d
/-- the parameters behind the call: only those that may be changed are told -/
def postE : List Bool → List D → Env
  | [], _ => []
  | false :: ks, outs => .un :: postE ks outs
  | true :: ks, d :: outs => .own false d :: postE ks outs
  | true :: ks, [] => .un :: postE ks []
def spF (c : Kc) (f : FD) (ks : List Bool) (md : Bool) : Sp := fun vs H Q E => ∃ F G ds, vs.length = ks.length ∧ ds.length = ks.length ∧ Rel c F (entry ks ds) (vs.map some) G H ∧ match f ds with
  | .ok d outs => ∀ x σ' G' H', Ex G G' → Rel c F (postE ks outs) σ' G' H' → RetD c F md G' H' x d → Q x H'
  | .exc x outs => ∀ cls dd σ' G' H', Ex G G' → Rel c F (postE ks outs) σ' G' H' → ExcOk c G' x cls dd → E cls dd H'
  | .stuck => False
theorem entry_len : ∀ {ks : List Bool} {ds : List D}, ds.length = ks.length → (entry ks ds).length = ks.length
  | [], [], _ => rfl
  | [], _ :: _, h => by cases h
  | _ :: _, [], h => by cases h
  | k :: ks, d :: ds, h => by
    show (entry ks ds).length + 1 = ks.length + 1
    rw [entry_len (by simpa using h)]
/-- fewer slots -/
theorem Rel.less {ρ' : Env} {σ' : L2.St} (R : Rel c F ρ σ G H) (hl : ρ'.length = σ'.length) (h : ∀ (i : Nat) (s : Slot), ρ'[i]? = some s → (s = .un ∧ ∃ u, σ'[i]? = some u) ∨ (ρ[i]? = some s ∧ σ'[i]? = σ[i]?)) : Rel c F ρ' σ' G H := by
  refine ⟨hl, R.gh, R.bh, R.xg, R.xh, R.nh, fun i s z => ?_, fun i j k l d e a hne z1 z2 y1 y2 => ?_, R.tk⟩
  · rcases h i s z with ⟨rfl, u, hu⟩ | ⟨h1, h2⟩
    · exact ⟨u, hu, trivial⟩
    · obtain ⟨u, e, y⟩ := R.sl i s h1
      exact ⟨u, h2.trans e, y⟩
  · rcases h i _ z1 with ⟨w, _⟩ | ⟨h1, h2⟩
    · cases w
    · rcases h j _ z2 with ⟨w, _⟩ | ⟨h3, h4⟩
      · cases w
      · exact R.dj i j k l d e a hne h1 h3 (h2 ▸ y1) (h4 ▸ y2)
theorem post_at : ∀ {ks : List Bool} {ρ : Env} {outs : List D}, outsOf ks ρ = some outs → ks.length ≤ ρ.length ∧ ∀ (i : Nat) (s : Slot), (postE ks outs)[i]? = some s → s = .un ∨ ρ[i]? = some s
  | [], ρ, outs, h => ⟨Nat.zero_le _, fun i s z => by simp [postE] at z⟩
  | false :: ks, [], outs, h => by cases h
  | false :: ks, t :: ρ, outs, h => by
    obtain ⟨h1, h2⟩ := post_at (ks := ks) (ρ := ρ) (outs := outs) h
    refine ⟨by simpa using h1, fun i s z => ?_⟩
    cases i with
    | zero => exact .inl (Option.some.inj z).symm
    | succ i => exact h2 i s (by simpa [postE] using z)
  | true :: ks, [], outs, h => by cases h
  | true :: ks, .un :: ρ, outs, h => by cases h
  | true :: ks, .val d :: ρ, outs, h => by cases h
  | true :: ks, .own true d :: ρ, outs, h => by cases h
  | true :: ks, .own false d :: ρ, outs, h => by
    have h : (outsOf ks ρ).map (d :: ·) = some outs := h
    cases e : outsOf ks ρ with
    | none => rw [e] at h; cases h
    | some os =>
      rw [e] at h
      cases h
      obtain ⟨h1, h2⟩ := post_at e
      refine ⟨by simpa using h1, fun i s z => ?_⟩
      cases i with
      | zero => exact .inr (by simpa [postE] using z)
      | succ i => simpa using h2 i s (by simpa [postE] using z)
theorem postE_len : ∀ (ks : List Bool) (outs : List D), (postE ks outs).length = ks.length
  | [], _ => rfl
  | false :: ks, outs => by show (postE ks outs).length + 1 = _; rw [postE_len ks outs]; rfl
  | true :: ks, d :: outs => by show (postE ks outs).length + 1 = _; rw [postE_len ks outs]; rfl
  | true :: ks, [] => by show (postE ks []).length + 1 = _; rw [postE_len ks []]; rfl
theorem Rel.post {ks : List Bool} {outs : List D} (R : Rel c F ρ σ G H) (h : outsOf ks ρ = some outs) : Rel c F (postE ks outs) (σ.take ks.length) G H := by
  obtain ⟨h1, h2⟩ := post_at h
  have hl : ρ.length = σ.length := R.len
  refine R.less (by rw [postE_len, List.length_take]; omega) fun i s z => ?_
  have hi : i < ks.length := by rw [← postE_len ks outs]; exact (List.getElem?_eq_some_iff.mp z).1
  rcases h2 i s z with rfl | e
  · exact .inl ⟨rfl, _, List.getElem?_eq_getElem (by rw [List.length_take]; omega)⟩
  · exact .inr ⟨e, List.getElem?_take_of_lt hi⟩
end

section
variable {P : Program} {w : World} {K : PySem.W.Frag} {mg : Str → Option Value} {base : Heap} {c : Kc}
/-- the context of a def's body -/
abbrev bCx (P : Program) (w : World) (K : PySem.W.Frag) (mg : Str → Option Value) (base : Heap) (N : List Str) (qual : Str) (st : Stmt) (f : Addr) (cdv : Value) (A : Around) (outer : List PySem.Env) (s : Shared) (H : Hp) (E : XK) : Cx :=
  cxOf (L2.CX P w) P w K mg base N qual (defScope st) f cdv A outer s H E
abbrev bW (E : XK) : WX := fun cls d _ H => E cls d H
/-- THE RULE for a def: its body does what the language says -/
theorem def_ok {x qual : Str} {st : Stmt} {f : Addr} {fd : FuncData} {N ps : List Str} {k : Nat} {ks : List Bool} {md : Bool} {more : Nat} {body : S} (Fn : Fun K x qual st f fd) (Sc : FnScope N ps (defScope st)) (hps : ps.length = ks.length) (hN : N.length = ks.length + more)
    (hK : c.K = K) (hbody : ∀ (cdv : Value) (A : Around) (outer : List PySem.Env) (s : Shared) (H : Hp) (E : XK), SB (bCx P w K mg base N qual st f cdv A outer s H E) c (bW E) k md (defBody st) body) :
    FnOk P w K mg base (L2.CX P w) (k + 1) f fd ps (spF c (runD ks md more body) ks md) := by
  refine Fn.okX Sc (fun vs H Q E h => ?_) (fun cdv A outer s₀ H vs Q E hr h => ?_)
  · obtain ⟨F, G, ds, h1, _⟩ := h
    rw [h1, hps]
  · obtain ⟨F, G, ds, h1, h2, R, h3⟩ := h
    have hs : (bCx P w K mg base N qual st f cdv A outer s₀ H E).stack = (bCx P w K mg base N qual st f cdv A outer s₀ H E).env :: (bCx P w K mg base N qual st f cdv A outer s₀ H E).outer := rfl
    have cx : Ctx (bCx P w K mg base N qual st f cdv A outer s₀ H E) c (bW E) k := ⟨hK, rfl, Sc.nd, passes_of rfl, takes_of rfl rfl rfl rfl, hr⟩
    refine ⟨_, hbody cdv A outer s₀ H E cx, ?_⟩
    have R2 : Rel c F (entry ks ds ++ List.replicate more .un) (L2.start N vs) G H := by
      have hl := entry_len (ks := ks) h2
      have e : N.length - vs.length = more := by omega
      refine R.less (by unfold L2.start; rw [List.length_append, List.length_append, List.length_replicate, List.length_replicate, List.length_map]; omega) fun i t z => ?_
      unfold L2.start
      by_cases hi : i < ks.length
      · rw [List.getElem?_append_left (by omega)] at z
        rw [List.getElem?_append_left (by rw [List.length_map]; omega)]
        exact .inr ⟨z, rfl⟩
      · rw [List.getElem?_append_right (by omega)] at z
        have hlt := (List.getElem?_eq_some_iff.mp z).1
        rw [List.length_replicate] at hlt
        rw [List.getElem?_replicate_of_lt hlt] at z
        refine .inl ⟨(Option.some.inj z).symm, none, ?_⟩
        rw [List.getElem?_append_right (by rw [List.length_map]; omega), List.length_map, List.getElem?_replicate_of_lt (by omega)]
    refine ⟨F, _, G, R2, ?_⟩
    have h3 : match (if ds.length = ks.length then finD ks md (body (entry ks ds ++ List.replicate more .un)) else .stuck) with
      | .ok d outs => ∀ x σ' G' H', Ex G G' → Rel c F (postE ks outs) σ' G' H' → RetD c F md G' H' x d → Q x H'
      | .exc x outs => ∀ cls dd σ' G' H', Ex G G' → Rel c F (postE ks outs) σ' G' H' → ExcOk c G' x cls dd → E cls dd H'
      | .stuck => False := h3
    rw [if_pos h2] at h3
    cases hb : body (entry ks ds ++ List.replicate more .un) with
    | next ρ' =>
      rw [hb] at h3
      cases md with
      | true => exact h3.elim
      | false =>
        have h3 : match (outsOf ks ρ').elim FR.stuck (FR.ok .none) with
          | .ok d outs => ∀ x σ' G' H', Ex G G' → Rel c F (postE ks outs) σ' G' H' → RetD c F false G' H' x d → Q x H'
          | .exc x outs => ∀ cls dd σ' G' H', Ex G G' → Rel c F (postE ks outs) σ' G' H' → ExcOk c G' x cls dd → E cls dd H'
          | .stuck => False := h3
        cases ho : outsOf ks ρ' with
        | none => rw [ho] at h3; exact h3.elim
        | some outs =>
          rw [ho] at h3
          exact fun σ' G' H' e R' => h3 .non _ G' H' e (R'.post ho) .non
    | brk ρ' => rw [hb] at h3; exact h3.elim
    | cont ρ' => rw [hb] at h3; exact h3.elim
    | rt d ρ' =>
      rw [hb] at h3
      have h3 : match (outsOf ks ρ').elim FR.stuck (FR.ok d) with
        | .ok d outs => ∀ x σ' G' H', Ex G G' → Rel c F (postE ks outs) σ' G' H' → RetD c F md G' H' x d → Q x H'
        | .exc x outs => ∀ cls dd σ' G' H', Ex G G' → Rel c F (postE ks outs) σ' G' H' → ExcOk c G' x cls dd → E cls dd H'
        | .stuck => False := h3
      cases ho : outsOf ks ρ' with
      | none => rw [ho] at h3; exact h3.elim
      | some outs =>
        rw [ho] at h3
        exact fun x σ' G' H' e R' r => h3 x _ G' H' e (R'.post ho) r
    | exc x ρ' =>
      rw [hb] at h3
      have h3 : match (outsOf ks ρ').elim FR.stuck (FR.exc x) with
        | .ok d outs => ∀ x σ' G' H', Ex G G' → Rel c F (postE ks outs) σ' G' H' → RetD c F md G' H' x d → Q x H'
        | .exc x outs => ∀ cls dd σ' G' H', Ex G G' → Rel c F (postE ks outs) σ' G' H' → ExcOk c G' x cls dd → E cls dd H'
        | .stuck => False := h3
      cases ho : outsOf ks ρ' with
      | none => rw [ho] at h3; exact h3.elim
      | some outs =>
        rw [ho] at h3
        exact fun cls dd σ' G' H' e R' r => h3 cls dd _ G' H' e (R'.post ho) r
    | stuck => rw [hb] at h3; exact h3.elim

/-- a def as it stands behind the top, and what it does -/
structure DefOk (P : Program) (w : World) (K : PySem.W.Frag) (mg : Str → Option Value) (base : Heap) (c : Kc) (name : Str) (f : FD) (ks : List Bool) (md : Bool) (j : Nat) : Prop where
  ex : ∃ (a : Addr) (fd : FuncData) (ps : List Str), FnOk P w K mg base (L2.CX P w) j a fd ps (spF c f ks md) ∧ mg name = some (.ref a) ∧ PySem.W.keepIn K (.ref a) = true ∧ Binds K fd ps []
end

/-! ### a call -/
section
variable {c : Kc} {F : Fr} {ρ : Env} {σ : L2.St} {G H G' H' : Hp}
/-- the arguments, one after another: their addresses where they are lent -/
theorem args_ok (R : Rel c F ρ σ G H) : ∀ {ks : List Bool} {os : List Opd} {xs : List V} {ds : List D}, Rets c σ G xs os → argDs ρ ks os = some ds →
    xs.length = ks.length ∧ ds.length = ks.length ∧ ∀ (i : Nat) (k : Bool), ks[i]? = some k → ∃ x o d, xs[i]? = some x ∧ os[i]? = some o ∧ ds[i]? = some d ∧ Ret c σ G x o ∧ argD ρ k o = some d
  | [], [], xs, ds, r, h => by
    cases r
    cases h
    exact ⟨rfl, rfl, fun i k z => by simp at z⟩
  | [], _ :: _, xs, ds, r, h => by cases h
  | _ :: _, [], xs, ds, r, h => by cases h
  | k :: ks, o :: os, xs, ds, r, h => by
    cases r with
    | cons r1 r2 =>
      have h : (argD ρ k o).bind (fun d => (argDs ρ ks os).map (d :: ·)) = some ds := h
      cases e1 : argD ρ k o with
      | none => rw [e1] at h; cases h
      | some d =>
        rw [e1] at h
        have h : (argDs ρ ks os).map (d :: ·) = some ds := h
        cases e2 : argDs ρ ks os with
        | none => rw [e2] at h; cases h
        | some ds2 =>
          rw [e2] at h
          cases h
          obtain ⟨h1, h2, h3⟩ := args_ok R r2 e2
          refine ⟨by simp [h1], by simp [h2], fun i k' z => ?_⟩
          cases i with
          | zero =>
            have : k = k' := by simpa using z
            subst this
            exact ⟨_, o, d, rfl, rfl, rfl, r1, e1⟩
          | succ i =>
            obtain ⟨x, o, d, y⟩ := h3 i k' (by simpa using z)
            exact ⟨x, o, d, by simpa using y.1, by simpa using y.2.1, by simpa using y.2.2.1, y.2.2.2⟩
theorem mem_lent : ∀ {ks : List Bool} {os : List Opd} {j : Nat}, j ∈ lent ks os ↔ ∃ i : Nat, ks[i]? = some false ∧ os[i]? = some (.bor j)
  | [], os, j => by simp [lent]
  | k :: ks, [], j => by cases k <;> simp [lent]
  | k :: ks, o :: os, j => by
    have ih := mem_lent (ks := ks) (os := os) (j := j)
    have step : (∃ i : Nat, (k :: ks)[i]? = some false ∧ (o :: os)[i]? = some (Opd.bor j)) ↔ (k = false ∧ o = .bor j) ∨ ∃ i : Nat, ks[i]? = some false ∧ os[i]? = some (Opd.bor j) := by
      constructor
      · rintro ⟨i, h1, h2⟩
        cases i with
        | zero => exact .inl ⟨by simpa using h1, by simpa using h2⟩
        | succ i => exact .inr ⟨i, by simpa using h1, by simpa using h2⟩
      · rintro (⟨rfl, rfl⟩ | ⟨i, h1, h2⟩)
        · exact ⟨0, rfl, rfl⟩
        · exact ⟨i + 1, by simpa using h1, by simpa using h2⟩
    rw [step, ← ih]
    cases k <;> cases o <;> simp [lent, eq_comm]
theorem mem_chg : ∀ {ks : List Bool} {os : List Opd} {j : Nat}, j ∈ chg ks os ↔ ∃ i : Nat, ks[i]? = some true ∧ os[i]? = some (.bor j)
  | [], os, j => by simp [chg]
  | k :: ks, [], j => by cases k <;> simp [chg]
  | k :: ks, o :: os, j => by
    have ih := mem_chg (ks := ks) (os := os) (j := j)
    have step : (∃ i : Nat, (k :: ks)[i]? = some true ∧ (o :: os)[i]? = some (Opd.bor j)) ↔ (k = true ∧ o = .bor j) ∨ ∃ i : Nat, ks[i]? = some true ∧ os[i]? = some (Opd.bor j) := by
      constructor
      · rintro ⟨i, h1, h2⟩
        cases i with
        | zero => exact .inl ⟨by simpa using h1, by simpa using h2⟩
        | succ i => exact .inr ⟨i, by simpa using h1, by simpa using h2⟩
      · rintro (⟨rfl, rfl⟩ | ⟨i, h1, h2⟩)
        · exact ⟨0, rfl, rfl⟩
        · exact ⟨i + 1, by simpa using h1, by simpa using h2⟩
    rw [step, ← ih]
    cases k <;> cases o <;> simp [chg, eq_comm]
end
end Dn


/-! Dn7: a call of a def. -/
namespace Dn
open PySem L2

theorem chg_two : ∀ {ks : List Bool} {os : List Opd} {i j : Nat} {p q : Nat}, i ≠ j → ks[i]? = some true → ks[j]? = some true → os[i]? = some (.bor p) → os[j]? = some (.bor q) → 2 ≤ (chg ks os).length
  | [], os, i, j, p, q, _, h, _, _, _ => by simp at h
  | k :: ks, [], i, j, p, q, _, _, _, h, _ => by simp at h
  | k :: ks, o :: os, 0, 0, p, q, hn, _, _, _, _ => absurd rfl hn
  | k :: ks, o :: os, i + 1, j + 1, p, q, hn, h1, h2, h3, h4 => by
    have := chg_two (ks := ks) (os := os) (i := i) (j := j) (fun e => hn (by rw [e])) (by simpa using h1) (by simpa using h2) (by simpa using h3) (by simpa using h4)
    cases k <;> cases o <;> simp only [chg, List.length_cons] <;> omega
  | k :: ks, o :: os, 0, j + 1, p, q, hn, h1, h2, h3, h4 => by
    have m : q ∈ chg ks os := mem_chg.mpr ⟨j, by simpa using h2, by simpa using h4⟩
    have : 0 < (chg ks os).length := List.length_pos_of_mem m
    have e1 : k = true := by simpa using h1
    have e2 : o = .bor p := by simpa using h3
    subst e1 e2
    simp only [chg, List.length_cons]
    omega
  | k :: ks, o :: os, i + 1, 0, p, q, hn, h1, h2, h3, h4 => by
    have m : p ∈ chg ks os := mem_chg.mpr ⟨i, by simpa using h1, by simpa using h3⟩
    have : 0 < (chg ks os).length := List.length_pos_of_mem m
    have e1 : k = true := by simpa using h2
    have e2 : o = .bor q := by simpa using h4
    subst e1 e2
    simp only [chg, List.length_cons]
    omega
theorem entry_at : ∀ {ks : List Bool} {ds : List D} {i : Nat} {s : Slot}, (entry ks ds)[i]? = some s → ∃ k d, ks[i]? = some k ∧ ds[i]? = some d ∧ s = if k then .own false d else .val d
  | [], ds, i, s, h => by simp [entry] at h
  | k :: ks, [], i, s, h => by simp [entry] at h
  | k :: ks, d :: ds, 0, s, h => ⟨k, d, rfl, rfl, (Option.some.inj h).symm⟩
  | k :: ks, d :: ds, i + 1, s, h => by
    obtain ⟨k', d', h1, h2, h3⟩ := entry_at (ks := ks) (ds := ds) (i := i) (s := s) (by simpa [entry] using h)
    exact ⟨k', d', by simpa using h1, by simpa using h2, h3⟩
theorem postE_at : ∀ {ks : List Bool} {t : Nat} {d : D} {rest : List D}, ks[t]? = some true → (∀ t', t' < t → ks[t']? ≠ some true) → (postE ks (d :: rest))[t]? = some (.own false d)
  | [], t, d, rest, h, _ => by simp at h
  | true :: ks, 0, d, rest, h, _ => rfl
  | true :: ks, t + 1, d, rest, h, h2 => absurd rfl (h2 0 (Nat.succ_pos t))
  | false :: ks, 0, d, rest, h, _ => by simp at h
  | false :: ks, t + 1, d, rest, h, h2 => by
    have := postE_at (ks := ks) (t := t) (d := d) (rest := rest) (by simpa using h) fun t' ht => by
      have := h2 (t' + 1) (by omega)
      simpa using this
    simpa [postE] using this

theorem putOut_own {ρ ρ' : Env} : ∀ {ch : List Nat} {outs : List D} {j : Nat} {k : Bool} {d : D}, putOut ρ ch outs = some ρ' → ρ'[j]? = some (.own k d) → ∃ k' d', ρ[j]? = some (.own k' d')
  | [], [], j, k, d, h, z => by cases h; exact ⟨k, d, z⟩
  | [], _ :: _, j, k, d, h, z => by cases h
  | [i], [e], j, k, d, h, z => by
    have h : (match ρ[i]? with | some (.own k _) => some (ρ.set i (.own k e)) | _ => none) = some ρ' := h
    split at h
    · rename_i k0 d0 hi
      cases h
      rcases getElem?_set z with ⟨rfl, _, _⟩ | ⟨_, z⟩
      · exact ⟨_, _, hi⟩
      · exact ⟨_, _, z⟩
    · cases h
  | [i], [], j, k, d, h, z => by cases h
  | [i], _ :: _ :: _, j, k, d, h, z => by cases h
  | _ :: _ :: _, outs, j, k, d, h, z => by cases h
theorem paired_imm {c : Kc} {G G2 : Hp} (hk : ∀ b xs, G b = some (.tup xs) → G2 b = some (.tup xs)) {vs : List (Str × V)} {fs : List (Str × D)} (h : Paired (fun (p : Str × V) (q : Str × D) => p.1 = q.1 ∧ Rep c G p.2 q.2) vs fs) (hi : ∀ q ∈ fs, imm q.2 = true) :
    Paired (fun (p : Str × V) (q : Str × D) => p.1 = q.1 ∧ Rep c G2 p.2 q.2) vs fs := by
  induction h with
  | nil => exact .nil
  | cons h1 t ih => exact .cons ⟨h1.1, h1.2.imm hk (hi _ List.mem_cons_self)⟩ (ih fun q hq => hi q (List.mem_cons_of_mem _ hq))
def ioOf (ks : List Bool) (xs : List V) : Nat → Option Addr := fun i => if ks[i]? = some true then (match xs[i]? with | some (.ref a) => some a | _ => none) else none
section
variable {c : Kc} {F : Fr} {ρ : Env} {σ : L2.St} {G H G' H' : Hp} {W : WX} {md : Bool}
open Classical in
/-- a call, from the caller's frame to the caller's frame -/
theorem call_core {f : FD} {ks : List Bool} {os : List Opd} {xs : List V} {Q : VK} {E : XK} (R : Rel c F ρ σ G H) (rs : Rets c σ G xs os)
    (hns : callO f ks md os ρ ≠ .stuck)
    (hok : ∀ d ρ' x G' H', callO f ks md os ρ = .ok (.val d) ρ' → Ex G G' → Rel c F ρ' σ G' H' → (md = false → Rep c G' x d) → (md = true → ∃ p, x = .ref p ∧ Fresh c F ρ' σ G' H' p d) → Q x H')
    (hex : ∀ x ρ' cls dd G' H', callO f ks md os ρ = .exc x ρ' → Ex G G' → Rel c F ρ' σ G' H' → ExcOk c G' x cls dd → E cls dd H') : spF c f ks md xs H Q E := by
  unfold callO at hns hok hex
  cases had : argDs ρ ks os with
  | none => rw [had] at hns; exact absurd rfl hns
  | some ds =>
    rw [had] at hns hok hex
    simp only at hns hok hex
    obtain ⟨hl1, hl2, hat⟩ := args_ok R rs had
    -- the slots that are lent
    have ownOf : ∀ {j : Nat} {d : D}, readOwn j ρ = some d → ∃ k a, ρ[j]? = some (.own k d) ∧ σ[j]? = some (some (.ref a)) ∧ G a = none ∧ F.B a = none ∧ ¬ F.X a ∧ ∃ o, H a = some o ∧ OD c G o d := fun {j d} h => by
      obtain ⟨k, hs, ho⟩ := readOwn_some h
      obtain ⟨a, h1, h2, h3, h4, _, _, h5⟩ := R.slot_own hs
      exact ⟨k, a, hs, h1, h2, h3, h4, h5⟩
    let Lent : Addr → Prop := fun a => ∃ j ∈ lent ks os, σ[j]? = some (some (.ref a))
    let Chg : Addr → Prop := fun a => ∃ j ∈ chg ks os, σ[j]? = some (some (.ref a))
    have lentA : ∀ {a}, Lent a → ∃ j k d vs, j ∈ lent ks os ∧ ρ[j]? = some (.own k (.list d)) ∧ σ[j]? = some (some (.ref a)) ∧ G a = none ∧ H a = some (.lst vs) ∧ RepA c G vs d := fun {a} ⟨j, hj, hs⟩ => by
      obtain ⟨i, h1, h2⟩ := mem_lent.mp hj
      obtain ⟨x, o, d, y1, y2, y3, y4, y5⟩ := hat i false h1
      rw [h2] at y2
      cases y2
      have y5 : (match readOwn j ρ with | some d => (if false = true then some d else if isSeq d then some d else none) | none => none) = some d := y5
      cases hr : readOwn j ρ with
      | none => rw [hr] at y5; cases y5
      | some d' =>
        rw [hr] at y5
        simp only [Bool.false_eq_true, if_false] at y5
        split at y5
        · rename_i hq
          cases y5
          obtain ⟨k, a', z1, z2, z3, _, _, o, z4, z5⟩ := ownOf hr
          rw [hs] at z2
          cases z2
          cases d with
          | list dl =>
            cases o with
            | lst vs => exact ⟨j, k, dl, vs, hj, z1, hs, z3, z4, z5⟩
            | _ => exact (show False from z5).elim
          | _ => cases hq
        · cases y5
    have chgA : ∀ {a}, Chg a → ∃ j k d, j ∈ chg ks os ∧ ρ[j]? = some (.own k d) ∧ σ[j]? = some (some (.ref a)) ∧ G a = none ∧ F.B a = none ∧ ¬ F.X a ∧ ∃ o, H a = some o ∧ OD c G o d := fun {a} ⟨j, hj, hs⟩ => by
      obtain ⟨i, h1, h2⟩ := mem_chg.mp hj
      obtain ⟨x, o, d, y1, y2, y3, y4, y5⟩ := hat i true h1
      rw [h2] at y2
      cases y2
      have y5 : (match readOwn j ρ with | some d => (if true = true then some d else if isSeq d then some d else none) | none => none) = some d := y5
      cases hr : readOwn j ρ with
      | none => rw [hr] at y5; cases y5
      | some d' =>
        obtain ⟨k, a', z1, z2, z3, z4, z5, z6⟩ := ownOf hr
        rw [hs] at z2
        cases z2
        exact ⟨j, k, d', hj, z1, hs, z3, z4, z5, z6⟩
    by_cases hokc : okC ks os = true
    · rw [if_pos hokc] at hns hok hex
      unfold okC at hokc
      rw [Bool.and_eq_true] at hokc
      have h2c : ¬ 2 ≤ (chg ks os).length := by
        have := of_decide_eq_true hokc.1
        omega
      have hdis : (chg ks os).all (fun i => !(lent ks os).contains i) = true := hokc.2
      have keepMe : True := trivial
      -- the two kinds stand apart
      have apart : ∀ {a}, Chg a → ¬ Lent a := fun {a} ha hb => by
        obtain ⟨j, k, d, h1, h2, h3, _⟩ := chgA ha
        obtain ⟨j', k', d', vs, g1, g2, g3, _⟩ := lentA hb
        have ne : j ≠ j' := fun e => by
          subst e
          have := List.all_eq_true.mp hdis j h1
          simp at this
          exact this g1
        exact R.dj j j' k k' d _ a ne h2 g2 h3 g3
      let G1 : Hp := fun a => if Lent a then H a else G a
      let F1 : Fr := ⟨fun a => if Chg a then none else H a, fun a => H a ≠ none ∧ G1 a = none ∧ ¬ Chg a, fun a => H a = none, ioOf ks xs⟩
      have g1n : ∀ {a}, ¬ Lent a → G1 a = G a := fun {a} h => if_neg h
      have g1l : ∀ {a}, Lent a → G1 a = H a := fun {a} h => if_pos h
      have exG : Ex G G1 := fun a o e => by
        rw [g1n fun h => by
          obtain ⟨_, _, _, _, _, _, _, z, _⟩ := lentA h
          rw [z] at e; cases e]
        exact e
      have R1 : Rel c F1 (entry ks ds) (xs.map some) G1 H := by
        refine ⟨by rw [entry_len hl2, List.length_map, hl1], fun a o e => ?_, fun a o e => ?_, fun a h => h.2.1, fun a h => h.1, fun a h => h, fun i s z => ?_, fun i j k l d e a hne z1 z2 y1 y2 => ?_, fun b ks e => exG _ _ (R.tk b ks e)⟩
        · by_cases h : Lent a
          · rw [g1l h] at e; exact e
          · rw [g1n h] at e; exact R.gh a o e
        · have e : (if Chg a then none else H a) = some o := e
          by_cases h : Chg a
          · rw [if_pos h] at e; cases e
          · rw [if_neg h] at e; exact e
        · obtain ⟨k, d, h1, h2, h3⟩ := entry_at z
          obtain ⟨x, o, d', y1, y2, y3, y4, y5⟩ := hat i k h1
          rw [h2] at y3
          cases y3
          refine ⟨some x, by rw [List.getElem?_map, y1]; rfl, ?_⟩
          subst h3
          cases k with
          | false =>
            show Rep c G1 x d
            cases o with
            | val d' => cases y5; exact Rep.mono exG y4
            | bor j =>
              have hL : ∀ {a}, σ[j]? = some (some (.ref a)) → Lent a := fun {a} e => ⟨j, mem_lent.mpr ⟨i, h1, y2⟩, e⟩
              have y5 : (match readOwn j ρ with | some d => (if false = true then some d else if isSeq d then some d else none) | none => none) = some d := y5
              cases hr : readOwn j ρ with
              | none => rw [hr] at y5; cases y5
              | some d' =>
                rw [hr] at y5
                simp only [Bool.false_eq_true, if_false] at y5
                split at y5
                · rename_i hq
                  cases y5
                  obtain ⟨k', a', z1, z2, z3, _, _, o, z4, z5⟩ := ownOf hr
                  have y4 : σ[j]? = some (some x) := y4
                  rw [z2] at y4
                  cases y4
                  cases d with
                  | list dl =>
                    cases o with
                    | lst vs => exact .lst (.inl (.inl (by rw [g1l (hL z2)]; exact z4))) (RepA.mono exG z5)
                    | _ => exact (show False from z5).elim
                  | _ => cases hq
                · cases y5
          | true =>
            show SlotOk c F1 G1 H i (.own false d) (some x)
            cases o with
            | val d' => cases y5
            | bor j =>
              have y5 : (match readOwn j ρ with | some d => (if true = true then some d else if isSeq d then some d else none) | none => none) = some d := y5
              cases hr : readOwn j ρ with
              | none => rw [hr] at y5; cases y5
              | some d' =>
                rw [hr] at y5
                simp only [if_true] at y5
                cases y5
                obtain ⟨k', a', z1, z2, z3, _, _, o, z4, z5⟩ := ownOf hr
                have y4 : σ[j]? = some (some x) := y4
                rw [z2] at y4
                cases y4
                have hC : Chg a' := ⟨j, mem_chg.mpr ⟨i, h1, y2⟩, z2⟩
                refine ⟨by rw [g1n (apart hC)]; exact z3, if_pos hC, fun z => z.2.2 hC, (fun z => nomatch z), fun _ => ?_, o, z4, z5.mono exG⟩
                show ioOf ks xs i = some a'
                unfold ioOf
                rw [if_pos h1, y1]
        · obtain ⟨k1, d1, h1, h2, h3⟩ := entry_at z1
          obtain ⟨k2, d2, h4, h5, h6⟩ := entry_at z2
          cases k1 with
          | false => cases h3
          | true =>
            cases k2 with
            | false => cases h6
            | true =>
              obtain ⟨x1, o1, e1, w1, w2, w3, w4, w5⟩ := hat i true h1
              obtain ⟨x2, o2, e2, v1, v2, v3, v4, v5⟩ := hat j true h4
              cases o1 with
              | val _ => cases w5
              | bor p =>
                cases o2 with
                | val _ => cases v5
                | bor q => exact h2c (chg_two hne h1 h4 w2 v2)
      refine ⟨F1, G1, ds, hl1, hl2, R1, ?_⟩
      -- behind the call
      have back : ∀ {outs : List D} {ρ' : Env} {σ' : L2.St} {G' H' : Hp}, putOut ρ (chg ks os) outs = some ρ' → ((lent ks os).isEmpty = true ∨ outs.all immO = true) → Ex G1 G' → Rel c F1 (postE ks outs) σ' G' H' →
          Ex G (fun a => if Lent a then none else G' a) ∧ Rel c F ρ' σ (fun a => if Lent a then none else G' a) H' ∧ (∀ b vs, G' b = some (.tup vs) → (fun a => if Lent a then none else G' a) b = some (.tup vs)) ∧ (∀ (j : Nat) (k : Bool) (d : D), ρ'[j]? = some (.own k d) → ∃ k' d', ρ[j]? = some (.own k' d')) := by
        intro outs ρ' σ' G' H' hp him ex R'
        have g2n : ∀ {a}, ¬ Lent a → (if Lent a then none else G' a) = G' a := fun {a} h => if_neg h
        have g2l : ∀ {a}, Lent a → (if Lent a then none else G' a) = none := fun {a} h => if_pos h
        have notL : ∀ {a o}, G a = some o → ¬ Lent a := fun {a o} e h => by
          obtain ⟨_, _, _, _, _, _, _, z, _⟩ := lentA h
          rw [z] at e; cases e
        have exG2 : Ex G (fun a => if Lent a then none else G' a) := fun a o e => by
          show (if Lent a then none else G' a) = some o
          rw [g2n (notL e)]
          exact ex a o (exG a o e)
        have tup2 : ∀ b vs, G' b = some (.tup vs) → (if Lent b then none else G' b) = some (.tup vs) := fun b vs e => by
          rw [g2n fun h => ?_]
          · exact e
          · obtain ⟨_, _, _, ws, _, _, _, _, z, _⟩ := lentA h
            have := ex b _ ((g1l h).trans z)
            rw [e] at this
            cases this
        -- a slot that is not changed
        have keepOwn : ∀ {j : Nat} {k : Bool} {d : D}, ρ[j]? = some (.own k d) → j ∉ chg ks os → ∃ u, σ[j]? = some u ∧ SlotOk c F (fun a => if Lent a then none else G' a) H' j (.own k d) u := fun {j k d} hj hn => by
          obtain ⟨b, z1, z2, z3, z4, z5, z6, o, z7, z8⟩ := R.slot_own hj
          have nc : ¬ Chg b := fun h => by
            obtain ⟨j', k', d', w1, w2, w3, _⟩ := chgA h
            by_cases e : j = j'
            · subst e; exact hn w1
            · exact R.dj j j' k k' d d' b e hj w2 z1 w3
          refine ⟨_, z1, ?_, z3, z4, z5, z6, o, R'.bh b o (by show (if Chg b then none else H b) = some o; rw [if_neg nc]; exact z7), z8.mono exG2⟩
          by_cases h : Lent b
          · exact g2l h
          · show (if Lent b then none else G' b) = none
            rw [g2n h]
            exact R'.xg b ⟨by rw [z7]; exact (fun z => nomatch z), by rw [g1n h]; exact z2, nc⟩
        have base : ∀ ρ2 : Env, ρ2.length = ρ.length → (∀ (j : Nat) (s : Slot), ρ2[j]? = some s → ∃ u, σ[j]? = some u ∧ SlotOk c F (fun a => if Lent a then none else G' a) H' j s u) →
            (∀ (j : Nat) (k : Bool) (d : D), ρ2[j]? = some (.own k d) → ∃ k' d', ρ[j]? = some (.own k' d')) → Rel c F ρ2 σ (fun a => if Lent a then none else G' a) H' := fun ρ2 hl hs ho => by
          refine ⟨hl.trans R.len, fun a o e => ?_, fun b o e => ?_, fun b hb => ?_, fun b hb => R'.nh b (R.xh b hb), fun b hb => R'.nh b (R.nh b hb), hs, fun i j k l d e a hne z1 z2 y1 y2 => ?_, fun b ks e => ?_⟩
          · have e : (if Lent a then none else G' a) = some o := e
            by_cases h : Lent a
            · rw [g2l h] at e; cases e
            · rw [g2n h] at e; exact R'.gh a o e
          · have nc : ¬ Chg b := fun h => by
              obtain ⟨_, _, _, _, _, _, _, z, _⟩ := chgA h
              rw [z] at e; cases e
            exact R'.bh b o (by show (if Chg b then none else H b) = some o; rw [if_neg nc]; exact R.bh b o e)
          · show (if Lent b then none else G' b) = none
            by_cases h : Lent b
            · exact g2l h
            · rw [g2n h]
              have nc : ¬ Chg b := fun h => by
                obtain ⟨_, _, _, _, _, _, _, _, z, _⟩ := chgA h
                exact z hb
              exact R'.xg b ⟨R.xh b hb, by rw [g1n h]; exact R.xg b hb, nc⟩
          · obtain ⟨k1, d1, w1⟩ := ho i _ _ z1
            obtain ⟨k2, d2, w2⟩ := ho j _ _ z2
            exact R.dj i j k1 k2 d1 d2 a hne w1 w2 y1 y2
          · have e' := R'.tk b ks e
            show (if Lent b then none else G' b) = _
            have nl : ¬ Lent b := fun h => by
              obtain ⟨_, _, _, ws, _, _, _, _, z, _⟩ := lentA h
              have := ex b _ ((g1l h).trans z)
              rw [e'] at this
              cases this
            rw [g2n nl]
            exact e'
        have ownOld : ∀ (j : Nat) (k : Bool) (d : D), ρ'[j]? = some (.own k d) → ∃ k' d', ρ[j]? = some (.own k' d') := fun j k d z => putOut_own hp z
        refine ⟨exG2, ?_, tup2, ownOld⟩
        cases hch : chg ks os with
        | nil =>
          rw [hch] at hp
          cases outs with
          | cons _ _ => cases hp
          | nil =>
            cases hp
            refine base ρ rfl (fun j s hj => ?_) (fun j k d h => ⟨k, d, h⟩)
            cases s with
            | own k d => exact keepOwn hj (by rw [hch]; simp)
            | un =>
              obtain ⟨u, e, _⟩ := R.sl j _ hj
              exact ⟨u, e, trivial⟩
            | val d =>
              obtain ⟨x, e, r⟩ := R.slot_val hj
              exact ⟨some x, e, Rep.mono exG2 r⟩
        | cons i0 r =>
          have hr0 : r = [] := by
            cases r with
            | nil => rfl
            | cons _ _ => rw [hch] at h2c; simp at h2c
          subst hr0
          rw [hch] at hp
          cases outs with
          | nil => cases hp
          | cons dout r2 =>
            cases r2 with
            | cons _ _ => cases hp
            | nil =>
              have hp : (match ρ[i0]? with | some (.own k _) => some (ρ.set i0 (.own k dout)) | _ => none) = some ρ' := hp
              split at hp
              · rename_i k0 d0 hi0
                cases hp
                obtain ⟨a, z1, z2, z3, z4, z5, z6, _⟩ := R.slot_own hi0
                have hC : Chg a := ⟨i0, by rw [hch]; exact List.mem_cons_self, z1⟩
                -- its place among the parameters
                obtain ⟨t, t1, t2⟩ := mem_chg.mp (show i0 ∈ chg ks os by rw [hch]; exact List.mem_cons_self)
                have tmin : ∀ t', t' < t → ks[t']? ≠ some true := fun t' ht z => by
                  obtain ⟨x1, o1, e1, w1, w2, w3, w4, w5⟩ := hat t' true z
                  cases o1 with
                  | val _ => cases w5
                  | bor p => exact h2c (chg_two (by omega) z t1 w2 t2)
                have hpost := postE_at (d := dout) (rest := []) t1 tmin
                obtain ⟨a2, y1, y2, _, _, _, y6, o', y7, y8⟩ := R'.slot_own hpost
                have ea : a2 = a := by
                  have q := y6 rfl
                  have q : ioOf ks xs t = some a2 := q
                  unfold ioOf at q
                  obtain ⟨x1, o1, e1, w1, w2, w3, w4, w5⟩ := hat t true t1
                  rw [t2] at w2
                  cases w2
                  have w4 : σ[i0]? = some (some x1) := w4
                  rw [z1] at w4
                  cases w4
                  rw [if_pos t1, w1] at q
                  exact (Option.some.inj q).symm
                subst ea
                refine base _ (by rw [List.length_set]) (fun j s hj => ?_) (fun j k d h => ?_)
                · rcases getElem?_set hj with ⟨rfl, rfl, hlt⟩ | ⟨hne, hj⟩
                  · refine ⟨_, z1, ?_, z3, z4, z5, z6, o', y7, ?_⟩
                    · show (if Lent a2 then none else G' a2) = none
                      rw [g2n (apart hC)]
                      exact y2
                    · rcases him with he | hi
                      · have ge : (fun a => if Lent a then none else G' a) = G' := by
                          funext b
                          exact if_neg fun ⟨j, hj, _⟩ => by
                            have e0 : lent ks os = [] := by simpa using he
                            rw [e0] at hj
                            cases hj
                        rw [ge]
                        exact y8
                      · exact OD.imm tup2 y8 (by simpa using hi)
                  · cases s with
                    | own k d => exact keepOwn hj (by rw [hch]; simp; exact fun e => hne e.symm)
                    | un =>
                      obtain ⟨u, e, _⟩ := R.sl j _ hj
                      exact ⟨u, e, trivial⟩
                    | val d =>
                      obtain ⟨x, e, r⟩ := R.slot_val hj
                      exact ⟨some x, e, Rep.mono exG2 r⟩
                · rcases getElem?_set h with ⟨rfl, _, _⟩ | ⟨_, h⟩
                  · exact ⟨_, _, hi0⟩
                  · exact ⟨_, _, h⟩
              · cases hp
      have noLent : (lent ks os).isEmpty = true → ∀ G' : Hp, (fun a => if Lent a then none else G' a) = G' := fun he G' => by
        funext b
        exact if_neg fun ⟨j, hj, _⟩ => by
          have e0 : lent ks os = [] := by simpa using he
          rw [e0] at hj
          cases hj
      -- what the call gave
      have okOut_lent : ∀ {here : Bool} {outs : List D}, okOut ks os here outs = true → ((lent ks os).isEmpty = true ∨ (here = true ∧ outs.all immO = true)) := fun {here outs} h => by
        unfold okOut at h
        rw [Bool.or_eq_true, Bool.and_eq_true] at h
        exact h
      cases hf : f ds with
      | stuck => rw [hf] at hns; exact absurd rfl hns
      | ok d outs =>
        rw [hf] at hns hok
        simp only at hns hok
        by_cases ho : okOut ks os (if md then immO d else imm d) outs = true
        · rw [if_pos ho] at hns hok
          have ho2 := okOut_lent ho
          cases hp : putOut ρ (chg ks os) outs with
          | none => rw [hp] at hns; exact absurd rfl hns
          | some ρ' =>
            rw [hp] at hok
            show ∀ x σ' G' H', Ex G1 G' → Rel c F1 (postE ks outs) σ' G' H' → RetD c F1 md G' H' x d → Q x H'
            intro x σ' G' H' ex R' rd
            obtain ⟨b1, b2, b3, b4⟩ := back hp (ho2.imp id fun h => h.2) ex R'
            refine hok d ρ' x _ H' rfl b1 b2 (fun hm => ?_) (fun hm => ?_)
            · subst hm
              have rd : Rep c G' x d := rd
              rcases ho2 with he | hi
              · rw [noLent he]; exact rd
              · exact rd.imm b3 hi.1
            · subst hm
              have rd : ∃ p, x = .ref p ∧ G' p = none ∧ F1.B p = none ∧ ¬ F1.X p ∧ F1.N p ∧ ∃ o, H' p = some o ∧ OD c G' o d := rd
              obtain ⟨p, e1, p1, p2, p3, p4, o, p5, p6⟩ := rd
              have hp : H p = none := p4
              refine ⟨p, e1, ⟨?_, R.bh.free hp, fun z => R.xh p z hp, Classical.byContradiction fun z => R.nh p z hp, ⟨o, p5, ?_⟩, fun i k e z y => ?_⟩⟩
              · show (if Lent p then none else G' p) = none
                by_cases h : Lent p
                · exact if_pos h
                · rw [if_neg h]; exact p1
              · rcases ho2 with he | hi
                · rw [noLent he]; exact p6
                · exact p6.imm b3 hi.1
              · obtain ⟨k', d', hk⟩ := b4 i k e z
                obtain ⟨a, q1, _, _, _, _, _, o2, q2, _⟩ := R.slot_own hk
                rw [y] at q1
                cases q1
                rw [hp] at q2
                cases q2
        · rw [if_neg ho] at hns; exact absurd rfl hns
      | exc x outs =>
        rw [hf] at hns hex
        simp only at hns hex
        by_cases ho : okOut ks os (x.fs.all fun p => imm p.2) outs = true
        · rw [if_pos ho] at hns hex
          have ho2 := okOut_lent ho
          cases hp : putOut ρ (chg ks os) outs with
          | none => rw [hp] at hns; exact absurd rfl hns
          | some ρ' =>
            rw [hp] at hex
            show ∀ cls dd σ' G' H', Ex G1 G' → Rel c F1 (postE ks outs) σ' G' H' → ExcOk c G' x cls dd → E cls dd H'
            intro cls dd σ' G' H' ex R' rx
            obtain ⟨b1, b2, b3, b4⟩ := back hp (ho2.imp id fun h => h.2) ex R'
            refine hex x ρ' cls dd _ H' rfl b1 b2 ?_
            rcases ho2 with he | hi
            · rw [noLent he]; exact rx
            · obtain ⟨r1, r2, r3⟩ := rx
              refine ⟨r1, r2, fun z => ?_⟩
              obtain ⟨d, vs, y1, y2, y3⟩ := r3 z
              refine ⟨d, vs, y1, ?_, ?_⟩
              · show (if Lent d then none else G' d) = some (.xd vs)
                rw [if_neg fun h => ?_]
                · exact y2
                · obtain ⟨_, _, _, ws, _, _, _, _, z, _⟩ := lentA h
                  have := ex d _ ((g1l h).trans z)
                  rw [y2] at this
                  cases this
              · exact paired_imm b3 y3 (List.all_eq_true.mp hi.1)
        · rw [if_neg ho] at hns; exact absurd rfl hns
    · rw [if_neg hokc] at hns
      exact absurd rfl hns
end
end Dn


/-! Dn8: calls and changes in the text. -/
namespace Dn
open PySem L2

section
variable {X : Cx} {c : Kc} {W : WX} {n : Nat} {md : Bool} {e a b : Expr} {m ma mb mc : M Opd} {ta tb : M Bool} {pos : Pos}
/-- the operands are reckoned, then the call: what is wanted of its promise -/
theorem callM_split {F : Fr} {ρ : Env} {σ : L2.St} {G H : Hp} {f : FD} {ks : List Bool} {md : Bool} {ms : List (M Opd)} {K : Opd → Env → Hp → Hp → Prop} {Q : VK} (R : Rel c F ρ σ G H) (p : Pst c F W σ G (callM f ks md ms ρ) K)
    (hQ : ∀ d ρ' x G' H', Ex G G' → Rel c F ρ' σ G' H' → (md = false → Rep c G' x d) → (md = true → ∃ q, x = .ref q ∧ Fresh c F ρ' σ G' H' q d) → K (.val d) ρ' G' H' → Q x H') :
    tA c W (ops ms) σ H fun xs H1 => spF c f ks md xs H1 Q (WE W σ) :=
  tA_bind R p fun os ρ1 G1 H1 xs e1 R1 r1 p1 => by
    refine call_core R1 r1 (fun z => by rw [z] at p1; exact p1) (fun d ρ' x G' H' hc ex R' h1 h2 => ?_) (fun x ρ' cls dd G' H' hc ex R' hx => ?_)
    · rw [hc] at p1
      exact hQ d ρ' x G' H' (e1.trans ex) R' h1 h2 (p1 G' H' ex R')
    · rw [hc] at p1
      exact p1 cls dd G' H' ex R' hx
theorem e_call {x : Str} {p : Pos} {es : List Expr} {ms : List (M Opd)} {f : FD} {ks : List Bool} {j : Nat} (hd : DefOk X.prog X.w X.K X.mg X.base c x f ks false j) (hj : j ≤ n) (ha : EA X c W n (a :: es) (ops ms)) (hg : Gl X x := by rfl) (hdb : (x == ("__debug__" : Str)) = false := by decide)
    (he : starEach (a :: es) X.env = (false, eval a X.env) :: starEach es X.env := by rfl) (hpl : (backTo pos (starEach es X.env)).any (·.1) = false := by rfl) : EE X c W n (.Call (.Name x p) (a :: es) [] pos) (callM f ks false ms) := fun k => by
  obtain ⟨fa, fd, ps, hF, hm, hk, hb⟩ := hd.ex
  refine peMono (pe_callS hF (k.room.mono hj) hg hm hk hb (fun σ => passAt k.tk σ) (ha k) hdb he hpl) fun σ H Q ⟨F, ρ, G, R, p⟩ => ?_
  exact callM_split R p fun d ρ' x G' H' e1 R' h1 h2 hK => hK x (h1 rfl)
theorem n_call {x : Str} {p : Pos} {es : List Expr} {ms : List (M Opd)} {f : FD} {ks : List Bool} {j : Nat} (hd : DefOk X.prog X.w X.K X.mg X.base c x f ks true j) (hj : j ≤ n) (ha : EA X c W n (a :: es) (ops ms)) (hg : Gl X x := by rfl) (hdb : (x == ("__debug__" : Str)) = false := by decide)
    (he : starEach (a :: es) X.env = (false, eval a X.env) :: starEach es X.env := by rfl) (hpl : (backTo pos (starEach es X.env)).any (·.1) = false := by rfl) : EN X c W n (.Call (.Name x p) (a :: es) [] pos) (callM f ks true ms) := fun k => by
  obtain ⟨fa, fd, ps, hF, hm, hk, hb⟩ := hd.ex
  refine peMono (pe_callS hF (k.room.mono hj) hg hm hk hb (fun σ => passAt k.tk σ) (ha k) hdb he hpl) fun σ H Q ⟨F, ρ, G, R, p⟩ => ?_
  refine callM_split R p fun d ρ' x G' H' e1 R' h1 h2 hK => ?_
  obtain ⟨q, rfl, fr⟩ := h2 rfl
  exact hK d q rfl fr
/-- a def that hands back a new list: its value, known -/
theorem e_nl {m : M Opd} (h : EN X c W n e m) : EE X c W n e (bnd m fun o => match o with | .val (.list ds) => ret (.val (.list ds)) | _ => fun _ => .stuck) := fun k =>
  peMono (h k) fun σ H Q ⟨F, ρ, G, R, p⟩ => ⟨F, ρ, G, R, Pst.bind p fun o ρ' G1 H1 e1 R1 p1 d q ed fr => by
    subst ed
    cases d with
    | list ds =>
      obtain ⟨G2, e2, R2, r2⟩ := fr.know R1
      exact p1 G2 H1 e2 R2 _ r2
    | _ => exact (show False from p1).elim⟩

/-! ### changes -/
theorem chkL_fl {F : Fr} {σ : L2.St} {G H : Hp} {ρ : Env} {E : Ends} {i : Nat} {f : Unit → S} (R : Rel c F ρ σ G H) (h : PstS c F md W E G (exe (chkL i) f ρ)) : ∃ k ds a xs, ρ[i]? = some (.own k (.list ds)) ∧ σ[i]? = some (some (.ref a)) ∧ H a = some (.lst xs) ∧ RepA c G xs ds ∧ PstS c F md W E G (f () ρ) := by
  have h : PstS c F md W E G ((match readOwn i ρ with | some (.list _) => .ok () ρ | _ => .stuck : Dn.R Unit).fl f) := h
  split at h
  · rename_i ds hr
    obtain ⟨k, hs, ho⟩ := readOwn_some hr
    obtain ⟨a, h1, _, _, _, _, _, o, h2, h3⟩ := R.slot_own hs
    cases o with
    | lst xs => exact ⟨k, ds, a, xs, hs, h1, h2, h3, h⟩
    | _ => exact (show False from h3).elim
  · exact (show False from h).elim
theorem mutO_fl {F : Fr} {σ : L2.St} {G H : Hp} {ρ : Env} {E : Ends} {i : Nat} {g : D → Option D} {a : Addr} (R : Rel c F ρ σ G H) (hs : σ[i]? = some (some (.ref a))) (h : PstS c F md W E G (mutO g i ρ)) :
    ∃ k d d', ρ[i]? = some (.own k d) ∧ g d = some d' ∧ (∃ o, H a = some o ∧ OD c G o d) ∧ ∀ o', OD c G o' d' → NT o' → E.nx σ (upd H a o') := by
  unfold mutO at h
  split at h
  · rename_i k d hi
    split at h
    · rename_i d' hg
      obtain ⟨a', e1, _, _, _, _, _, ho⟩ := R.slot_own hi
      rw [hs] at e1
      cases e1
      exact ⟨k, d, d', hi, hg, ho, fun o' od nt => h σ G _ (Ex.refl G) (R.mut hi hs od nt)⟩
    · exact (show False from h).elim
  · exact (show False from h).elim
/-- x.append(e) -/
theorem s_app {i : Nat} {x : Str} {p ap cp : Pos} (he : EE X c W n e m) (hN : X.N[i]? = some x := by rfl) (hv : Vis X.env.scope x := by first | exact Or.inl rfl | exact Or.inr (Or.inl rfl) | exact Or.inr (Or.inr rfl)) (hd : (x == ("__debug__" : Str)) = false := by decide)
    (hcd : (x == ("__classdict__" : Str)) = false := by decide) (he1 : starEach [e] X.env = (false, eval e X.env) :: starEach [] X.env := by rfl) (hs : swapsWith (.Call (.Attribute (.Name x p) "append" ap) [e] [] cp) none pos.line X.env = pure false := by rfl)
    (hbase : attributeBase (.Name x p) "append" X.env (eval (.Name x p) X.env) = eval (.Name x p) X.env := by rfl)
    (hfew : ((backTo cp (starEach [e] X.env)).all (fun x => !x.1) && (backToKw cp (keywordEach [] X.env)).all (fun x => x.1.isSome) && decide ([e].length + ([] : List Keyword).length + (if ([] : List Keyword).isEmpty then 0 else 1) < 30)) = true := by rfl)
    (hline : (ap.endLine == cp.line) = true := by rfl) (hplain : (backTo cp (starEach [] X.env)).any (·.1) = false := by rfl) :
    SS X c W n md (.Expr (.Call (.Attribute (.Name x p) "append" ap) [e] [] cp) pos) (append i m) := fun k =>
  psMono (ps_expr (pe_bm PySem.F.plainAttrs_list PySem.F.slot_list_append PySem.F.type_list_append mt_append (pe_var hN hv hd hcd) (pa_cons (he k) pa_nil he1) hbase hfew hline he1 hplain) hs) fun E σ H ⟨F, ρ, G, R, p⟩ => by
    obtain ⟨k0, ds, a, xs, h1, h2, h3, h4, p1⟩ := chkL_fl R p
    refine ⟨_, h2, .inl ⟨rfl, xs, .inl (.inl h3)⟩, ?_⟩
    refine tE_fl R p1 fun o ρ1 G1 H1 y e1 R1 r1 p2 => ?_
    obtain ⟨d, q1, _, p3⟩ := stab_fl r1 p2
    obtain ⟨k1, d1, d', w1, w2, ⟨o1, w3, w4⟩, w5⟩ := mutO_fl R1 h2 p3
    unfold appD at w2
    split at w2
    · rename_i ds1
      split at w2
      · rename_i hl
        cases w2
        cases o1 with
        | lst ys =>
          refine ⟨a, ys, y, rfl, rfl, w3, ?_, w5 _ (RepA.append w4 (.one q1)) (fun _ z => nomatch z)⟩
          rw [RepA.length w4]
          exact Nat.lt_of_lt_of_le hl (by decide)
        | _ => exact (show False from w4).elim
      · cases w2
    · cases w2
theorem place_ix {n : Nat} {i : Int} : place n i = ixN n i := rfl
/-- x[i] = e -/
theorem s_setix {i : Nat} {x : Str} {p tp : Pos} {ix : Expr} {mi : M Opd} (he : EE X c W n e m) (hi : EE X c W n ix mi) (hN : X.N[i]? = some x := by rfl) (hv : Vis X.env.scope x := by first | exact Or.inl rfl | exact Or.inr (Or.inl rfl) | exact Or.inr (Or.inr rfl)) (hd : (x == ("__debug__" : Str)) = false := by decide)
    (hcd : (x == ("__classdict__" : Str)) = false := by decide)
    (ha : ∀ v, assign (.Subscript (.Name x p) ix tp) X.env v = (do
      let ov ← holding [v] (eval (.Name x p) X.env)
      let iv ← holding [v, ov] (eval ix X.env)
      standAt tp
      holding [v, ov, iv] (setItem ov iv v)
      release [v, ov, iv] []) := by intro _; rfl)
    (hs : swapsWithSole [.Subscript (.Name x p) ix tp] e pos.line X.env = pure false := by rfl) (hw : swappedStores [.Subscript (.Name x p) ix tp] e X.env = pure none := by rfl)
    (h1 : (assignEach [.Subscript (.Name x p) ix tp] X.env).map (·.2) = [assign (.Subscript (.Name x p) ix tp) X.env] := by rfl) :
    SS X c W n md (.Assign [.Subscript (.Name x p) ix tp] e pos) (setIx i mi m) := fun k =>
  psMono (ps_asg (he k) (pg_sub (pe_var hN hv hd hcd) (hi k) set_list ha) hs hw h1) fun E σ H ⟨F, ρ, G, R, p⟩ => tE_fl R p fun o ρ1 G1 H1 y e1 R1 r1 p1 => by
    obtain ⟨d, q1, _, p2⟩ := stab_fl r1 p1
    obtain ⟨k0, ds, a, xs, w1, w2, w3, w4, p3⟩ := chkL_fl R1 p2
    refine ⟨_, w2, ?_⟩
    refine tE_fl R1 p3 fun o2 ρ2 G2 H2 z e2 R2 r2 p4 => ?_
    obtain ⟨kd, q2, p5⟩ := res_fl R2 r2 p4
    obtain ⟨k1, d1, d', v1, v2, ⟨o1, v3, v4⟩, v5⟩ := mutO_fl R2 w2 p5
    unfold setD at v2
    split at v2
    · rename_i ds1
      split at v2
      · rename_i j
        cases hp : place ds1.length j with
        | none => rw [hp] at v2; cases v2
        | some jj =>
          rw [hp] at v2
          cases v2
          cases o1 with
          | lst ys =>
            have v4 : RepA c G2 ys ds1 := v4
            rw [orep_int q2]
            exact ⟨a, ys, j, jj, rfl, rfl, v3, by rw [v4.length]; exact hp, v5 _ (RepA.set (q1.mono e2) jj v4) (fun _ z => nomatch z)⟩
          | _ => exact (show False from v4).elim
      · cases v2
    · cases v2
end
end Dn


/-! DnP: the operations of the language of values. -/
namespace Dn
open PySem

def mulOk (i j : Int) : Bool := decide (i.natAbs.log2 + j.natAbs.log2 < 134000000)
def addD : D → D → Option D
  | .int i, .int j => some (.int (i + j))
  | .str a, .str b => if a.length + b.length ≤ 16000000 then some (.str (a ++ b)) else none
  | .list xs, .list ys => if xs.length + ys.length ≤ 16000000 then some (.list (xs ++ ys)) else none
  | .tuple xs, .tuple ys => if xs.length + ys.length ≤ 16000000 then some (.tuple (xs ++ ys)) else none
  | _, _ => none
def addL : D → D → Option D
  | .list xs, .list ys => if xs.length + ys.length ≤ 16000000 then some (.list (xs ++ ys)) else none
  | _, _ => none
def subD : D → D → Option D
  | .int i, .int j => some (.int (i - j))
  | _, _ => none
def mulD : D → D → Option D
  | .int i, .int j => if mulOk i j then some (.int (i * j)) else none
  | .tuple [x], .int k => if -1000 ≤ k ∧ k ≤ 1000 then some (.tuple (List.replicate k.toNat x)) else none
  | _, _ => none
def fdivOk (j : Int) : Bool := decide (0 < j) && decide (j.natAbs.log2 < 9000)
def fdivOkN (j : Int) : Bool := decide (j ≠ 0) && decide (j.natAbs.log2 < 9000)
def fdivD : D → D → Option D
  | .int i, .int j => if fdivOkN j then some (.int (i.fdiv j)) else none
  | _, _ => none
def modD : D → D → Option D
  | .int i, .int j => if 0 < j then some (.int (i % j)) else none
  | _, _ => none
def powD : D → D → Option D
  | .int i, .int j => if 0 ≤ j ∧ j ≤ 1000000 ∧ i.natAbs < 18446744073709551616 then some (.int (i ^ j.toNat)) else none
  | _, _ => none
def negD : D → Option D
  | .int i => some (.int (-i))
  | _ => none
def eqOk (d e : D) : Bool := decide (min d.depth e.depth ≤ 100)
def noD : D → Bool
  | .dict _ => false
  | _ => true
def eqD (d e : D) : Option D := if eqOk (er d) (er e) && noD (er d) && noD (er e) then some (.bool (PyData.eqv (er d) (er e))) else none
def neD (d e : D) : Option D := if eqOk (er d) (er e) && noD (er d) && noD (er e) then some (.bool (!PyData.eqv (er d) (er e))) else none
def ltD : D → D → Option D
  | .int i, .int j => some (.bool (decide (i < j)))
  | _, _ => none
def leD : D → D → Option D
  | .int i, .int j => some (.bool (decide (i ≤ j)))
  | _, _ => none
def gtD : D → D → Option D
  | .int i, .int j => some (.bool (decide (j < i)))
  | _, _ => none
def geD : D → D → Option D
  | .int i, .int j => some (.bool (decide (j ≤ i)))
  | _, _ => none
def inOk (d e : D) : Bool := decide (min d.depth e.depth ≤ 100)
/-- x in a list or a tuple -/
def inD (d e : D) : Option D := match e with
  | .list xs => if inOk d e && (PyData.plain d && PyData.plainAll xs) then some (.bool (xs.any fun y => PyData.eqv y d)) else none
  | .tuple xs => if inOk d e && (PyData.plain d && PyData.plainAll xs) then some (.bool (xs.any fun y => PyData.eqv y d)) else none
  | _ => none
def notInD (d e : D) : Option D := match inD d e with
  | some (.bool x) => some (.bool (!x))
  | _ => none
def at_ {α : Type} (xs : List α) (i : Int) : Option α := (place xs.length i).bind fun j => xs[j]?
def ixD : D → D → Option D
  | .list xs, .int i => at_ xs i
  | .tuple xs, .int i => at_ xs i
  | .str z, .int i => if z.length ≤ 16000000 then (at_ z.cps.toList i).map fun c => .str ⟨#[c]⟩ else none
  | _, _ => none
def noneB : D → Bool
  | .none => true
  | _ => false
def isNoneD : D → D → Option D
  | d, .none => some (.bool (noneB d))
  | _, _ => none
def notNoneD : D → D → Option D
  | d, .none => some (.bool (!noneB d))
  | _, _ => none
/-! slices -/
def sIx (n d : Nat) : Option Int → Nat
  | none => d
  | some i => if i < 0 then (i + n).toNat else min i.toNat n
def cut {α : Type} (xs : List α) (lo hi : Option Int) : List α := (xs.drop (sIx xs.length 0 lo)).take (sIx xs.length xs.length hi - sIx xs.length 0 lo)
def sliceD (lo hi : Option Int) : D → Option D
  | .list xs => some (.list (cut xs lo hi))
  | .tuple xs => some (.tuple (cut xs lo hi))
  | .str z => if z.length ≤ 16000000 then some (.str ⟨(cut z.cps.toList lo hi).toArray⟩) else none
  | _ => none
def partI : Option D → Option (Option Int)
  | none => some none
  | some (.int i) => some (some i)
  | _ => none
/-! built-in functions -/
def lenD : List D → Option D
  | [.list xs] => some (.int xs.length)
  | [.tuple xs] => some (.int xs.length)
  | [.dict [(.none, .tuple xs)]] => some (.int xs.length)
  | [.str z] => if z.length ≤ 16000000 then some (.int z.length) else none
  | _ => none
def absD : List D → Option D
  | [.int i] => some (.int (if i < 0 then -i else i))
  | _ => none
def intD : List D → Option D
  | [.int i] => some (.int i)
  | [.bool k] => some (.int (if k then 1 else 0))
  | _ => none
def listD : List D → Option D
  | [.list xs] => some (.list xs)
  | [.tuple xs] => some (.list xs)
  | _ => none
def tupleD : List D → Option D
  | [.list xs] => some (.tuple xs)
  | [.tuple xs] => some (.tuple xs)
  | _ => none
def max2D : List D → Option D
  | [.int i, .int j] => some (.int (if j > i then j else i))
  | _ => none
def min2D : List D → Option D
  | [.int i, .int j] => some (.int (if j < i then j else i))
  | _ => none
def tyName : D → String
  | .none => "NoneType"
  | .bool _ => "bool"
  | .int _ => "int"
  | .str _ => "str"
  | .list _ => "list"
  | .tuple _ => "tuple"
  | .dict [(.none, .tuple _)] => "tuple"
  | .dict _ => "dict"
/-- isinstance with a built-in type -/
def isiD (T : String) (d : D) : Option D := some (.bool (tyName d == T || (tyName d == "bool" && T == "int")))
/-- the place of the first equal one -/
def findIx (d : D) : List D → Nat → Option Nat
  | [], _ => none
  | y :: ys, k => if PyData.eqv y d then some k else findIx d ys (k + 1)
def indexD (xs d : D) : Option D := match xs with
  | .list ys => if inOk d xs && (PyData.plain d && PyData.plainAll ys) then (findIx d ys 0).map fun k => .int k else none
  | _ => none
def allBools : List D → Option (List Bool)
  | [] => some []
  | .bool x :: ds => (allBools ds).map (x :: ·)
  | _ => none
def allD : List D → Option D
  | [.list ds] => (allBools ds).map fun bs => .bool (bs.all id)
  | _ => none
def anyD : List D → Option D
  | [.list ds] => (allBools ds).map fun bs => .bool (bs.any id)
  | _ => none
end Dn


/-! Dn9: the operations of the machine are those of the language. -/
namespace Dn
open PySem L2 PyProof.Rows

section
variable {X : Cx} {c : Kc} {W : WX} {n : Nat} {md : Bool} {e a b : Expr} {m ma mb mc : M Opd} {pos : Pos}
theorem resI {G H : Hp} {Q : VK} {i : Int} (h : ResK c G H (.int i) Q) : Q (.int i) H := h.1 _ (.int i)
theorem resB {G H : Hp} {Q : VK} {i : Bool} (h : ResK c G H (.bool i) Q) : Q (.bl i) H := h.1 _ (.bl i)
theorem resT {G H : Hp} {Q : VK} {xs : List V} {ds : List D} (h : ResK c G H (.tuple ds) Q) (r : RepA c G xs ds) : ∀ p, H p = none → Q (.ref p) (upd H p (.tup xs)) := fun p hp => h.2 p (.tup xs) hp r (fun _ z => nomatch z)
theorem resL {G H : Hp} {Q : VK} {xs : List V} {ds : List D} (h : ResK c G H (.list ds) Q) (r : RepA c G xs ds) : ∀ p, H p = none → Q (.ref p) (upd H p (.lst xs)) := fun p hp => h.2 p (.lst xs) hp r (fun _ z => nomatch z)
theorem zlen {n : Nat} (h : n ≤ 16000000) : n ≤ sizeLine := Nat.le_trans h (by decide)
theorem add_lists_of {pins : List (Addr × Obj)} {s : Shared} {σ : L2.St} {H : Hp} {l b : Addr} {xs zs : List V} {Q : VK} (I : Inv X pins σ H s) (hl : SqL X.K H l xs) (hb : SqL X.K H b zs) (hz : xs.length + zs.length ≤ sizeLine)
    (q : ∀ p, H p = none → Q (.ref p) (upd H p (.lst (xs ++ zs)))) : wpAny (model X.prog X.w) X.A (binaryOp .Add (.ref l) (.ref b)) (EP X pins σ Q) X.xe s := by
  obtain ⟨its, r, ⟨⟨oc, od, dt, sl⟩, n, e, e1, e2, e3⟩, z⟩ := I.list hl
  obtain ⟨its2, r2, ⟨⟨oc2, od2, dt2, sl2⟩, n2, f, f1, f2, f3⟩, z2⟩ := I.list hb
  simp only at e1 e2 e3 f1 f2 f3
  subst e1 e2 e3 f1 f2 f3
  refine concat_meets ⟨_, e, rfl⟩ ⟨_, f, rfl⟩ noFill_list_add seq_list_add PySem.F.slot_list_add PySem.F.entry_list_add (PySem.F.args_list_add_2 _ _) (list_addW l b its.toArray its2.toArray n n2 none none sl sl2 (by rw [List.size_toArray, List.size_toArray, ← r.length, ← r2.length]; exact hz)) ⟨e, f, ?_⟩
  have ea : its.toArray ++ its2.toArray = (its ++ its2).toArray := by simp
  rw [ea]
  exact ⟨.ref _, _, I.lnew (t' := s.toks) (r.append r2) (by rw [List.length_append]; exact hz), rfl, q _ I.fresh⟩
theorem op_addD (hK : c.K = X.K) : OpR X (binaryOp .Add) (rD2 c addD) := by
  intro pins s σ H x y u u2 Q I rx ry h
  obtain ⟨G, d, e, r, ex, hd, he, hg, hr⟩ := h
  unfold addD at hg
  split at hg
  · cases hg
    rw [orep_int hd] at rx
    rw [orep_int he] at ry
    exact op_add pins s σ H _ _ u u2 Q I rx ry ⟨_, _, rfl, rfl, resI hr⟩
  · split at hg
    · rename_i hz
      cases hg
      rw [orep_str hd] at rx
      rw [orep_str he] at ry
      exact op_add_str pins s σ H _ _ u u2 Q I rx ry ⟨_, _, rfl, rfl, zlen hz, hr.1 _ (.str _)⟩
    · cases hg
  · split at hg
    · rename_i hz
      cases hg
      obtain ⟨p, xs, e1, q1, r1⟩ := orep_lst hK ex hd
      obtain ⟨p2, ys, e2, q2, r2⟩ := orep_lst hK ex he
      subst e1 e2
      cases rx
      cases ry
      exact add_lists_of I q1 q2 (by rw [r1.length, r2.length]; exact zlen hz) (resL hr (r1.append r2))
    · cases hg
  · split at hg
    · rename_i hz
      cases hg
      obtain ⟨p, xs, e1, q1, r1⟩ := orep_tup hK ex hd
      obtain ⟨p2, ys, e2, q2, r2⟩ := orep_tup hK ex he
      subst e1 e2
      have l1 := r1.length
      have l2 := r2.length
      refine op_catA pins s σ H _ _ u u2 Q I rx ry ⟨p, p2, xs, ys, rfl, rfl, q1, q2, by rw [l1, l2]; exact zlen hz, fun z => ?_, fun _ z => ?_, fun _ _ => resT hr (r1.append r2)⟩
      · subst z
        cases r1
        rcases he with he | ⟨ho, _⟩
        · exact hr.1 _ (by simpa using he)
        · cases ho
      · subst z
        cases r2
        rcases hd with hd | ⟨ho, _⟩
        · exact hr.1 _ (by simpa using hd)
        · cases ho
    · cases hg
  · cases hg

theorem op_addL (hK : c.K = X.K) : OpR X (binaryOp .Add) (rN2 c addL) := by
  intro pins s σ H x y u u2 Q I rx ry h
  obtain ⟨G, d, e, r, ex, hd, he, hg, hr⟩ := h
  unfold addL at hg
  split at hg
  · split at hg
    · rename_i hz
      cases hg
      obtain ⟨p, xs, e1, q1, r1⟩ := orep_lst hK ex hd
      obtain ⟨p2, ys, e2, q2, r2⟩ := orep_lst hK ex he
      subst e1 e2
      cases rx
      cases ry
      exact add_lists_of I q1 q2 (by rw [r1.length, r2.length]; exact zlen hz) fun p hp => hr p _ hp (show OD c G (.lst _) (.list _) from r1.append r2) (fun _ z => nomatch z)
    · cases hg
  · cases hg
theorem op_subD : OpR X (binaryOp .Sub) (rD2 c subD) := by
  intro pins s σ H x y u u2 Q I rx ry h
  obtain ⟨G, d, e, r, ex, hd, he, hg, hr⟩ := h
  unfold subD at hg
  split at hg
  · cases hg
    rw [orep_int hd] at rx
    rw [orep_int he] at ry
    exact op_sub pins s σ H _ _ u u2 Q I rx ry ⟨_, _, rfl, rfl, resI hr⟩
  · cases hg
theorem tuple_mul0 (l : Addr) (items : Array Value) (n : Nat) (dd : Option Addr) (sl : Array (Option Value)) (x : Int) (u : Tok) (c0 : (decide (x < -(2 ^ 63)) || decide (x ≥ 2 ^ 63)) = false) (c1 : (items.isEmpty || x == 1) = false) (c2 : (decide (x ≤ 0) || items.isEmpty) = true) :
    Meets (Builtin.«tuple.__mul__» ⟨[.ref l, .int x u], []⟩) (fun _ R s => s.heap.get? l = some { cls := .type "tuple", dict := dd, data := .seq items n, slots := sl } ∧
      R (.ok (.ret (Value.ref s.heap.objs.size))) { s with heap := s.heap.push { cls := Value.type "tuple", data := Data.seq #[] }, toks := s.toks }) :=
  .of_wp fun prog w A R s h => by
    obtain ⟨hp, g, d, tk, os⟩ := s
    obtain ⟨hl, h⟩ := h
    have f1 := AutoSeq1.idx_int
    wp_walk using wpAny_loadPart' hl
    repeat (first
      | (refine wpAny_ite_false (decide_eq_false (by rw [c0]; exact Bool.false_ne_true)) ?_; wp_walk using wpAny_loadPart' hl)
      | (refine wpAny_ite_false (decide_eq_false (by rw [c1]; exact Bool.false_ne_true)) ?_; wp_walk using wpAny_loadPart' hl)
      | (refine wpAny_ite_true (decide_eq_true c2) ?_; wp_walk using wpAny_loadPart' hl))
    exact ⟨_, rfl, h⟩
theorem tuple_mul1 (l : Addr) (items : Array Value) (n : Nat) (dd : Option Addr) (sl : Array (Option Value)) (u : Tok) :
    Meets (Builtin.«tuple.__mul__» ⟨[.ref l, .int 1 u], []⟩) (fun _ R s => s.heap.get? l = some { cls := .type "tuple", dict := dd, data := .seq items n, slots := sl } ∧
      R (.ok (.ret (Value.ref l))) s) :=
  .of_wp fun prog w A R s h => by
    obtain ⟨hp, g, d, tk, os⟩ := s
    obtain ⟨hl, h⟩ := h
    have f1 := AutoSeq1.idx_int
    wp_walk using wpAny_loadPart' hl
    exact ⟨_, rfl, h⟩
/-- t * k of a tuple of one item -/
theorem rep_one {pins : List (Addr × Obj)} {s : Shared} {σ : L2.St} {H : Hp} {l : Addr} {x : V} {k : Int} {t : Tok} {Q : VK} (I : Inv X pins σ H s) (hT : SqT X.K H l [x]) (hlo : -1000 ≤ k) (hk : k ≤ 1000)
    (q1 : k = 1 → Q (.ref l) H) (q2 : ∀ p, H p = none → Q (.ref p) (upd H p (.tup (List.replicate k.toNat x)))) : wpAny (model X.prog X.w) X.A (binaryOp .Mult (.ref l) (.int k t)) (EP X pins σ Q) X.xe s := by
  by_cases h2 : 2 ≤ k
  · refine op_repT pins s σ H (.ref l) (.int k) _ _ Q I rfl ⟨t, rfl⟩ ⟨l, k, [x], rfl, rfl, hT, by simp, h2, hk, by simp, fun p hp => ?_⟩
    have e : (List.replicate k.toNat [x]).flatten = List.replicate k.toNat x := by
      induction k.toNat with
      | zero => rfl
      | succ m ih => rw [List.replicate_succ, List.flatten_cons, ih, List.replicate_succ]; rfl
    rw [e]
    exact q2 p hp
  · obtain ⟨its, r, ⟨⟨cls, dd, data, sl⟩, ho, hc, n, hd⟩, hs⟩ := I.tuple hT
    simp only at hc hd
    subst hc hd
    · have hsz : its.toArray.isEmpty = false := by
        cases r with
        | cons _ _ => rfl
      have c0 : (decide (k < -(2 ^ 63)) || decide (k ≥ 2 ^ 63)) = false := by
        rw [decide_eq_false (by omega), decide_eq_false (by omega)]
        rfl
      by_cases h1 : k = 1
      · subst h1
        refine wpAny_binaryOp_repeat_ref (T := "tuple") (U := "int") (by decide) ⟨_, ho, rfl⟩ (fun s' => typeIs_int s' 1 t) noFill_tuple_mul F.fills_int_mul F.slot_int_rmul repeat_tuple F.slot_int_index.lookup
          (call_meets F.slot_int_rmul (typeIs_int s 1 t) F.entry_int_rmul (F.args_int_rmul_2 _ _) (int_rmul_tuple 1 t l its.toArray n dd sl)
            ⟨ho, rfl, ⟨_, ho, rfl⟩, call_meets F.slot_tuple_mul ⟨_, ho, rfl⟩ F.entry_tuple_mul (F.args_tuple_mul_2 _ _) (tuple_mul1 l its.toArray n dd sl t) ⟨ho, ?_⟩⟩)
        exact ⟨.ref l, H, I, rfl, q1 rfl⟩
      · have c1 : (its.toArray.isEmpty || k == 1) = false := by
          rw [hsz, Bool.false_or]
          exact beq_eq_false_iff_ne.mpr h1
        have c2 : (decide (k ≤ 0) || its.toArray.isEmpty) = true := by
          rw [decide_eq_true (by omega : k ≤ 0)]
          rfl
        refine wpAny_binaryOp_repeat_ref (T := "tuple") (U := "int") (by decide) ⟨_, ho, rfl⟩ (fun s' => typeIs_int s' k t) noFill_tuple_mul F.fills_int_mul F.slot_int_rmul repeat_tuple F.slot_int_index.lookup
          (call_meets F.slot_int_rmul (typeIs_int s k t) F.entry_int_rmul (F.args_int_rmul_2 _ _) (int_rmul_tuple k t l its.toArray n dd sl)
            ⟨ho, rfl, ⟨_, ho, rfl⟩, call_meets F.slot_tuple_mul ⟨_, ho, rfl⟩ F.entry_tuple_mul (F.args_tuple_mul_2 _ _) (tuple_mul0 l its.toArray n dd sl k t c0 c1 c2) ⟨ho, ?_⟩⟩)
        have e : List.replicate k.toNat x = [] := by
          rw [Int.toNat_of_nonpos (by omega)]
          rfl
        have q3 := q2 s.heap.objs.size (I.hok.fresh (Nat.le_refl _))
        rw [e] at q3
        exact ⟨.ref s.heap.objs.size, _, I.laid (t' := s.toks) (o := .tup []) (fun b ob q => Heap.get?_push_of_some _ q) (Nat.le_refl _) ⟨Nat.zero_le _, [], .nil, IsTup.new _ _⟩, rfl, q3⟩
theorem mulOk_ok {i j : Int} (h : mulOk i j = true) : CMulX i j := by
  unfold mulOk at h
  have h2 := of_decide_eq_true h
  have key : ∀ n : Nat, n < 2 ^ (n.log2 + 1) := fun n => Nat.lt_log2_self
  exact mulx_ok (key _) (key _) (by omega)
theorem op_mulD (hK : c.K = X.K) : OpR X (binaryOp .Mult) (rD2 c mulD) := by
  intro pins s σ H x y u u2 Q I rx ry h
  obtain ⟨G, d, e, r, ex, hd, he, hg, hr⟩ := h
  unfold mulD at hg
  split at hg
  · split at hg
    · rename_i hm
      cases hg
      rw [orep_int hd] at rx
      rw [orep_int he] at ry
      exact op_mulX pins s σ H _ _ u u2 Q I rx ry ⟨_, _, rfl, rfl, mulOk_ok hm, resI hr⟩
    · cases hg
  · split at hg
    · rename_i hk
      cases hg
      obtain ⟨p, xs, e1, q1, r1⟩ := orep_tup hK ex hd
      rw [orep_int he] at ry
      obtain ⟨t, rfl⟩ := ry
      subst e1
      cases rx
      cases r1 with
      | cons r2 r3 =>
        cases r3
        refine rep_one I q1 hk.1 hk.2 (fun z => ?_) (resT hr ?_)
        · subst z
          rcases hd with hd | ⟨ho, _⟩
          · exact hr.1 _ hd
          · cases ho
        · have rr : ∀ (m : Nat) {x : V} {d : D}, Rep c G x d → RepA c G (List.replicate m x) (List.replicate m d) := by
            intro m x d hx
            induction m with
            | zero => exact .nil
            | succ m ih => exact .cons hx ih
          exact rr _ r2
    · cases hg
  · cases hg
theorem op_fdivW' : OpR X (binaryOp .FloorDiv) (rI (fun _ j => j ≠ 0 ∧ j.natAbs.log2 < 9000) fun i j => .int (i.fdiv j)) := opI fun i j _ _ _ _ _ hc q => floordiv_int hc.1 q (.inl (PyProof.noPylong_of_log2 hc.2))
theorem op_fdivD : OpR X (binaryOp .FloorDiv) (rD2 c fdivD) := by
  intro pins s σ H x y u u2 Q I rx ry h
  obtain ⟨G, d, e, r, ex, hd, he, hg, hr⟩ := h
  unfold fdivD at hg
  split at hg
  · split at hg
    · rename_i hm
      cases hg
      rw [orep_int hd] at rx
      rw [orep_int he] at ry
      unfold fdivOkN at hm
      rw [Bool.and_eq_true] at hm
      exact op_fdivW' pins s σ H _ _ u u2 Q I rx ry ⟨_, _, rfl, rfl, ⟨of_decide_eq_true hm.1, of_decide_eq_true hm.2⟩, resI hr⟩
    · cases hg
  · cases hg
theorem op_modD : OpR X (binaryOp .Mod) (rD2 c modD) := by
  intro pins s σ H x y u u2 Q I rx ry h
  obtain ⟨G, d, e, r, ex, hd, he, hg, hr⟩ := h
  unfold modD at hg
  split at hg
  · split at hg
    · rename_i hm
      cases hg
      rw [orep_int hd] at rx
      rw [orep_int he] at ry
      exact op_mod pins s σ H _ _ u u2 Q I rx ry ⟨_, _, rfl, rfl, hm, resI hr⟩
    · cases hg
  · cases hg
theorem op_powD : OpR X (binaryOp .Pow) (rD2 c powD) := by
  intro pins s σ H x y u u2 Q I rx ry h
  obtain ⟨G, d, e, r, ex, hd, he, hg, hr⟩ := h
  unfold powD at hg
  split at hg
  · split at hg
    · rename_i hm
      cases hg
      rw [orep_int hd] at rx
      rw [orep_int he] at ry
      exact op_pow pins s σ H _ _ u u2 Q I rx ry ⟨_, _, rfl, rfl, ⟨hm.1, hm.2.1, hm.2.2⟩, resI hr⟩
    · cases hg
  · cases hg
theorem un_negD : UnR X (unaryOp .USub) (rD1 c negD) := by
  intro pins s σ H x u Q I rx h
  obtain ⟨G, d, r, ex, hd, hg, hr⟩ := h
  unfold negD at hg
  split at hg
  · cases hg
    rw [orep_int hd] at rx
    exact un_neg pins s σ H _ u Q I rx ⟨_, rfl, resI hr⟩
  · cases hg
/-! ### comparisons -/
mutual
theorem Dp.plain {K : PySem.W.Frag} {H : Hp} : ∀ {v : V} {d : D}, Dp K H v d → d.plain = true
  | _, _, .non => rfl
  | _, _, .bl _ => rfl
  | _, _, .int _ => rfl
  | _, _, .str _ => rfl
  | _, _, .lst _ a => DpAll.plain a
  | _, _, .tup _ a => DpAll.plain a
theorem DpAll.plain {K : PySem.W.Frag} {H : Hp} : ∀ {vs : List V} {ds : List D}, DpAll K H vs ds → PyData.plainAll ds = true
  | _, _, .nil => rfl
  | _, _, .cons h a => by
    show (PyData.plain _ && PyData.plainAll _) = true
    rw [Dp.plain h, DpAll.plain a]
    rfl
end
mutual
theorem Dp.ex {K : PySem.W.Frag} {H H' : Hp} (e : Ex H H') : ∀ {v : V} {d : D}, Dp K H v d → Dp K H' v d
  | _, _, .non => .non
  | _, _, .bl b => .bl b
  | _, _, .int i => .int i
  | _, _, .str x => .str x
  | _, _, .lst h a => .lst (sqEx e h) (DpAll.ex e a)
  | _, _, .tup h a => .tup (sqT_ex e h) (DpAll.ex e a)
theorem DpAll.ex {K : PySem.W.Frag} {H H' : Hp} (e : Ex H H') : ∀ {vs : List V} {ds : List D}, DpAll K H vs ds → DpAll K H' vs ds
  | _, _, .nil => .nil
  | _, _, .cons h a => .cons (Dp.ex e h) (DpAll.ex e a)
end
theorem orep_dp {G H : Hp} {x : V} {d : D} {K : PySem.W.Frag} (hK : c.K = K) (ex : Ex G H) (h : ORep c G H x d) (hn : noD (er d) = true) : Dp K H x (er d) := by
  rcases h with h | ⟨ho, a, o, e, h1, h2⟩
  · exact hK ▸ Dp.ex ex h.dp
  · cases d with
    | list ds =>
      cases o with
      | lst xs =>
        subst e
        rw [er_lst]
        exact .lst (.inl (.inl h1)) (hK ▸ DpAll.ex ex (show RepA c G xs ds from h2).dp)
      | _ => exact (show False from h2).elim
    | dict ps =>
      exfalso
      have e : er (.dict ps) = .dict ps := by
        show erp ps = _
        unfold erp
        split
        · exact absurd rfl (od_no h2 _)
        · rfl
      rw [e] at hn
      cases hn
    | _ => cases ho
theorem er_plain' : (∀ d : D, d.plain = true → er d = d) ∧ ∀ ds : List D, PyData.plainAll ds = true → ers ds = ds := by
  have main : ∀ n, (∀ d : D, sizeOf d < n → d.plain = true → er d = d) ∧ ∀ ds : List D, sizeOf ds < n → PyData.plainAll ds = true → ers ds = ds := by
    intro n
    induction n with
    | zero => exact ⟨fun _ h => absurd h (Nat.not_lt_zero _), fun _ h => absurd h (Nat.not_lt_zero _)⟩
    | succ n ih =>
      refine ⟨fun d hd hp => ?_, fun ds hd hp => ?_⟩
      · cases d with
        | list ds => rw [er_lst, ih.2 ds (by simp at hd; omega) hp]
        | tuple ds => rw [er_tup, ih.2 ds (by simp at hd; omega) hp]
        | dict ps => simp [PyData.plain] at hp
        | _ => rfl
      · cases ds with
        | nil => exact ers_nil
        | cons d ds =>
          have hp : (PyData.plain d && PyData.plainAll ds) = true := hp
          rw [Bool.and_eq_true] at hp
          simp at hd
          rw [ers_cons, ih.1 d (by omega) hp.1, ih.2 ds (by omega) hp.2]
  exact ⟨fun d => (main (sizeOf d + 1)).1 d (Nat.lt_succ_self _), fun ds => (main (sizeOf ds + 1)).2 ds (Nat.lt_succ_self _)⟩
theorem er_plain {d : D} (h : d.plain = true) : er d = d := er_plain'.1 d h
theorem noD_plain {d : D} (h : d.plain = true) : noD d = true := by cases d <;> first | rfl | (simp [PyData.plain] at h)
theorem orep_dp' {G H : Hp} {x : V} {d : D} {K : PySem.W.Frag} (hK : c.K = K) (ex : Ex G H) (h : ORep c G H x d) (hp : d.plain = true) : Dp K H x d := by
  have := orep_dp hK ex h (by rw [er_plain hp]; exact noD_plain hp)
  rwa [er_plain hp] at this
theorem op_eqD1 (hK : c.K = X.K) (hu : X.A.units + 199 < cLine) : OpR X (compareOp .Eq) (rD2 c eqD) := by
  intro pins s σ H x y u u2 Q I rx ry h
  obtain ⟨G, d, e, r, ex, hd, he, hg, hr⟩ := h
  unfold eqD at hg
  split at hg
  · rename_i hc
    cases hg
    rw [Bool.and_eq_true, Bool.and_eq_true] at hc
    have p1 := orep_dp hK ex hd hc.1.2
    have p2 := orep_dp hK ex he hc.2
    obtain ⟨as, r1⟩ := Dp.reads I (er d) x u p1 rx
    obtain ⟨bs, r2⟩ := Dp.reads I (er e) y u2 p2 ry
    have hm : min (er d).depth (er e).depth ≤ 100 := of_decide_eq_true hc.1.1
    exact SeqAt.eq_plain r1 r2 (Dp.plain p1) (Dp.plain p2) (by omega) ⟨.bl _, H, I, rfl, resB hr⟩
  · cases hg
theorem op_neD1 (hK : c.K = X.K) (hu : X.A.units + 199 < cLine) : OpR X (compareOp .NotEq) (rD2 c neD) := by
  intro pins s σ H x y u u2 Q I rx ry h
  obtain ⟨G, d, e, r, ex, hd, he, hg, hr⟩ := h
  unfold neD at hg
  split at hg
  · rename_i hc
    cases hg
    rw [Bool.and_eq_true, Bool.and_eq_true] at hc
    have p1 := orep_dp hK ex hd hc.1.2
    have p2 := orep_dp hK ex he hc.2
    obtain ⟨as, r1⟩ := Dp.reads I (er d) x u p1 rx
    obtain ⟨bs, r2⟩ := Dp.reads I (er e) y u2 p2 ry
    have hm : min (er d).depth (er e).depth ≤ 100 := of_decide_eq_true hc.1.1
    exact SeqAt.ne_plain r1 r2 (Dp.plain p1) (Dp.plain p2) (by omega) ⟨.bl _, H, I, rfl, resB hr⟩
  · cases hg
theorem op_ordD {op : CmpOp} {g : D → D → Option D} {f : Int → Int → Bool} (ho : OpR X (compareOp op) (rI0 fun i j => .bl (f i j))) (hg : ∀ d e r, g d e = some r → ∃ i j, d = .int i ∧ e = .int j ∧ r = .bool (f i j)) : OpR X (compareOp op) (rD2 c g) := by
  intro pins s σ H x y u u2 Q I rx ry h
  obtain ⟨G, d, e, r, ex, hd, he, hgg, hr⟩ := h
  obtain ⟨i, j, rfl, rfl, rfl⟩ := hg _ _ _ hgg
  rw [orep_int hd] at rx
  rw [orep_int he] at ry
  exact ho pins s σ H _ _ u u2 Q I rx ry ⟨i, j, rfl, rfl, resB hr⟩
theorem op_ltD : OpR X (compareOp .Lt) (rD2 c ltD) := op_ordD op_lt fun d e r h => by
  unfold ltD at h
  split at h
  · cases h; exact ⟨_, _, rfl, rfl, rfl⟩
  · cases h
theorem op_leD : OpR X (compareOp .LtE) (rD2 c leD) := op_ordD op_le fun d e r h => by
  unfold leD at h
  split at h
  · cases h; exact ⟨_, _, rfl, rfl, rfl⟩
  · cases h
theorem op_gtD : OpR X (compareOp .Gt) (rD2 c gtD) := op_ordD op_gt fun d e r h => by
  unfold gtD at h
  split at h
  · cases h; exact ⟨_, _, rfl, rfl, rfl⟩
  · cases h
theorem op_geD : OpR X (compareOp .GtE) (rD2 c geD) := op_ordD op_ge fun d e r h => by
  unfold geD at h
  split at h
  · cases h; exact ⟨_, _, rfl, rfl, rfl⟩
  · cases h
theorem depthAll_le : ∀ (xs : List D), PyData.depthAll xs ≤ (PyData.list xs).depth := fun xs => by
  show _ ≤ PyData.depthAll xs + 1
  omega
theorem op_inD1 (hK : c.K = X.K) (hu : X.A.units + 199 < cLine) : OpR X (compareOp .In) (rD2 c inD) := by
  intro pins s σ H x y u u2 Q I rx ry h
  obtain ⟨G, d, e, r, ex, hd, he, hg, hr⟩ := h
  unfold inD at hg
  split at hg
  · split at hg
    · rename_i xs hc
      cases hg
      rw [Bool.and_eq_true, Bool.and_eq_true] at hc
      have p1 := orep_dp' hK ex hd hc.2.1
      have p2 := orep_dp' hK ex he hc.2.2
      obtain ⟨as, r1⟩ := Dp.reads I d x u p1 rx
      obtain ⟨bs, r2⟩ := Dp.reads I _ y u2 p2 ry
      have hm : min d.depth (PyData.depthAll xs + 1) ≤ 100 := of_decide_eq_true hc.1
      exact SeqAt.in_list_data r2 r1 (Dp.plain p2) (Dp.plain p1) (by omega) ⟨.bl _, H, I, rfl, resB hr⟩
    · cases hg
  · split at hg
    · rename_i xs hc
      cases hg
      rw [Bool.and_eq_true, Bool.and_eq_true] at hc
      have p1 := orep_dp' hK ex hd hc.2.1
      have p2 := orep_dp' hK ex he hc.2.2
      obtain ⟨as, r1⟩ := Dp.reads I d x u p1 rx
      obtain ⟨bs, r2⟩ := Dp.reads I _ y u2 p2 ry
      have hm : min d.depth (PyData.depthAll xs + 1) ≤ 100 := of_decide_eq_true hc.1
      exact SeqAt.in_tuple_data r2 r1 (Dp.plain p2) (Dp.plain p1) (by omega) ⟨.bl _, H, I, rfl, resB hr⟩
    · cases hg
  · cases hg
theorem op_notInD1 (hK : c.K = X.K) (hu : X.A.units + 199 < cLine) : OpR X (compareOp .NotIn) (rD2 c notInD) := by
  intro pins s σ H x y u u2 Q I rx ry h
  obtain ⟨G, d, e, r, ex, hd, he, hg, hr⟩ := h
  unfold notInD at hg
  split at hg
  · rename_i z hz
    cases hg
    unfold inD at hz
    split at hz
    · split at hz
      · rename_i xs hc
        cases hz
        rw [Bool.and_eq_true, Bool.and_eq_true] at hc
        have p1 := orep_dp' hK ex hd hc.2.1
        have p2 := orep_dp' hK ex he hc.2.2
        obtain ⟨as, r1⟩ := Dp.reads I d x u p1 rx
        obtain ⟨bs, r2⟩ := Dp.reads I _ y u2 p2 ry
        have hm : min d.depth (PyData.depthAll xs + 1) ≤ 100 := of_decide_eq_true hc.1
        exact SeqAt.notIn_list_data r2 r1 (Dp.plain p2) (Dp.plain p1) (by omega) ⟨.bl _, H, I, rfl, resB hr⟩
      · cases hz
    · split at hz
      · rename_i xs hc
        cases hz
        rw [Bool.and_eq_true, Bool.and_eq_true] at hc
        have p1 := orep_dp' hK ex hd hc.2.1
        have p2 := orep_dp' hK ex he hc.2.2
        obtain ⟨as, r1⟩ := Dp.reads I d x u p1 rx
        obtain ⟨bs, r2⟩ := Dp.reads I _ y u2 p2 ry
        have hm : min d.depth (PyData.depthAll xs + 1) ≤ 100 := of_decide_eq_true hc.1
        exact SeqAt.notIn_tuple_data r2 r1 (Dp.plain p2) (Dp.plain p1) (by omega) ⟨.bl _, H, I, rfl, resB hr⟩
      · cases hz
    · cases hz
  · cases hg
theorem op_isNoneD : OpR X (compareOp .Is) (rD2 c isNoneD) := by
  intro pins s σ H x y u u2 Q I rx ry h
  obtain ⟨G, d, e, r, ex, hd, he, hg, hr⟩ := h
  unfold isNoneD at hg
  split at hg
  · cases hg
    rw [orep_non he] at ry
    refine op_isN pins s σ H _ _ u u2 Q I rx ry ⟨rfl, ?_⟩
    have e1 : decide (x = V.non) = noneB d := by
      rcases hd with hd | ⟨ho, a, o, rfl, _⟩
      · cases hd <;> rfl
      · cases d <;> first | rfl | cases ho
    rw [e1]
    exact resB hr
  · cases hg
theorem op_notNoneD : OpR X (compareOp .IsNot) (rD2 c notNoneD) := by
  intro pins s σ H x y u u2 Q I rx ry h
  obtain ⟨G, d, e, r, ex, hd, he, hg, hr⟩ := h
  unfold notNoneD at hg
  split at hg
  · cases hg
    rw [orep_non he] at ry
    refine op_notN pins s σ H _ _ u u2 Q I rx ry ⟨rfl, ?_⟩
    have e1 : (!decide (x = V.non)) = !noneB d := by
      rcases hd with hd | ⟨ho, a, o, rfl, _⟩
      · cases hd <;> rfl
      · cases d <;> first | rfl | cases ho
    rw [e1]
    exact resB hr
  · cases hg
/-! ### subscripts -/
theorem at_v {G : Hp} {xs : List V} {ds : List D} {i : Int} {d : D} (r : RepA c G xs ds) (h : at_ ds i = some d) : ∃ x, atI xs i = some x ∧ Rep c G x d := by
  unfold at_ at h
  unfold atI
  rw [← place_ix, r.length]
  cases e : place ds.length i with
  | none => rw [e] at h; cases h
  | some j =>
    rw [e] at h
    exact r.get h
theorem ix_D (hK : c.K = X.K) : IxR X (rD2 c ixD) := by
  intro val slc pins s σ H x y u u2 Q I rx ry h hs
  obtain ⟨G, d, e, r, ex, hd, he, hg, hr⟩ := h
  unfold ixD at hg
  split at hg
  · obtain ⟨p, xs, e1, q1, r1⟩ := orep_lst hK ex hd
    rw [orep_int he] at ry
    obtain ⟨x2, h1, h2⟩ := at_v r1 hg
    exact ix_seq val slc pins s σ H x _ u u2 Q I rx ry (.inl ⟨p, xs, _, x2, e1, rfl, q1, h1, hr.1 _ h2⟩) hs
  · obtain ⟨p, xs, e1, q1, r1⟩ := orep_tup hK ex hd
    rw [orep_int he] at ry
    obtain ⟨x2, h1, h2⟩ := at_v r1 hg
    exact ix_seq val slc pins s σ H x _ u u2 Q I rx ry (.inr (.inl ⟨p, xs, _, x2, e1, rfl, q1, h1, hr.1 _ h2⟩)) hs
  · split at hg
    · rename_i z i hz
      rw [orep_str hd] at rx
      rw [orep_int he] at ry
      cases e1 : at_ z.cps.toList i with
      | none => rw [e1] at hg; cases hg
      | some k =>
        rw [e1] at hg
        cases hg
        exact ix_seq val slc pins s σ H _ _ u u2 Q I rx ry (.inr (.inr ⟨z, i, k, rfl, rfl, zlen hz, e1, hr.1 _ (.str _)⟩)) hs
    · cases hg
  · cases hg

/-! ### slices -/
theorem sIx_eq (n d : Nat) (o : Option Int) : HT.sIx n d o = sIx n d o ∨ True := .inr trivial
end
section
variable {X : Cx} {c : Kc} {W : WX} {n : Nat} {md : Bool} {e a b : Expr} {m ma mb mc : M Opd} {pos : Pos}
/-! ### built-in functions -/
theorem orep_seq {G H : Hp} {x : V} {d : D} {xs : List D} {K : PySem.W.Frag} (hK : c.K = K) (ex : Ex G H) (h : ORep c G H x d) (hd : d = .list xs ∨ d = .tuple xs) : ∃ a vs, x = .ref a ∧ (SqL K H a vs ∨ SqT K H a vs) ∧ RepA c G vs xs := by
  rcases hd with rfl | rfl
  · obtain ⟨a, vs, h1, h2, h3⟩ := orep_lst hK ex h
    exact ⟨a, vs, h1, .inl h2, h3⟩
  · obtain ⟨a, vs, h1, h2, h3⟩ := orep_tup hK ex h
    exact ⟨a, vs, h1, .inr h2, h3⟩
theorem call_lenD (hK : c.K = X.K) : CallR X (.builtin "len") (rDN c lenD) := by
  intro pins s σ H xs us Q I rx h
  obtain ⟨G, ds, r, ex, hd, hg, hr⟩ := h
  unfold lenD at hg
  split at hg
  · cases hg
    cases hd with
    | cons h1 h2 =>
      cases h2
      obtain ⟨p, vs, e1, q1, r1⟩ := orep_lst hK ex h1
      subst e1
      refine call_len_seq pins s σ H _ us Q I rx ⟨p, vs, rfl, .inl q1, ?_⟩
      rw [r1.length]
      exact resI hr
  · cases hg
    cases hd with
    | cons h1 h2 =>
      cases h2
      obtain ⟨p, vs, e1, q1, r1⟩ := orep_tup hK ex h1
      subst e1
      refine call_len_seq pins s σ H _ us Q I rx ⟨p, vs, rfl, .inr q1, ?_⟩
      rw [r1.length]
      exact resI hr
  · cases hg
    cases hd with
    | cons h1 h2 =>
      cases h2
      obtain ⟨p, vs, e1, q1, r1⟩ := orep_sum hK ex h1
      subst e1
      refine call_len_seq pins s σ H _ us Q I rx ⟨p, vs, rfl, .inr q1.sq, ?_⟩
      rw [r1.length]
      exact resI hr
  · split at hg
    · rename_i hz
      cases hg
      cases hd with
      | cons h1 h2 =>
        cases h2
        rw [orep_str h1] at rx
        exact call_len_str pins s σ H _ us Q I rx ⟨_, rfl, zlen hz, resI hr⟩
    · cases hg
  · cases hg
theorem call_absD : CallR X (.builtin "abs") (rDN c absD) := by
  intro pins s σ H xs us Q I rx h
  obtain ⟨G, ds, r, ex, hd, hg, hr⟩ := h
  unfold absD at hg
  split at hg
  · cases hg
    cases hd with
    | cons h1 h2 =>
      cases h2
      rw [orep_int h1] at rx
      exact call_abs pins s σ H _ us Q I rx ⟨_, rfl, resI hr⟩
  · cases hg
theorem call_intD : CallR X (.type "int") (rDN c intD) := by
  intro pins s σ H xs us Q I rx h
  obtain ⟨G, ds, r, ex, hd, hg, hr⟩ := h
  unfold intD at hg
  split at hg
  · cases hg
    cases hd with
    | cons h1 h2 =>
      cases h2
      rw [orep_int h1] at rx
      exact call_int1 pins s σ H _ us Q I rx (.inl ⟨_, rfl, resI hr⟩)
  · cases hg
    cases hd with
    | cons h1 h2 =>
      cases h2
      rw [orep_bl h1] at rx
      exact call_int1 pins s σ H _ us Q I rx (.inr ⟨_, rfl, resI hr⟩)
  · cases hg
theorem call_max2D (hc : X.calm = true) : CallR X (.builtin "max") (rDN c max2D) := by
  intro pins s σ H xs us Q I rx h
  obtain ⟨G, ds, r, ex, hd, hg, hr⟩ := h
  unfold max2D at hg
  split at hg
  · cases hg
    cases hd with
    | cons h1 h2 =>
      cases h2 with
      | cons h2 h3 =>
        cases h3
        rw [orep_int h1, orep_int h2] at rx
        exact call_max2 hc pins s σ H _ us Q I rx ⟨_, _, rfl, resI hr⟩
  · cases hg
theorem call_min2D (hc : X.calm = true) : CallR X (.builtin "min") (rDN c min2D) := by
  intro pins s σ H xs us Q I rx h
  obtain ⟨G, ds, r, ex, hd, hg, hr⟩ := h
  unfold min2D at hg
  split at hg
  · cases hg
    cases hd with
    | cons h1 h2 =>
      cases h2 with
      | cons h2 h3 =>
        cases h3
        rw [orep_int h1, orep_int h2] at rx
        exact call_min2 hc pins s σ H _ us Q I rx ⟨_, _, rfl, resI hr⟩
  · cases hg
theorem call_tupleD (hK : c.K = X.K) : CallR X (.type "tuple") (rDN c tupleD) := by
  intro pins s σ H xs us Q I rx h
  obtain ⟨G, ds, r, ex, hd, hg, hr⟩ := h
  unfold tupleD at hg
  split at hg
  · cases hg
    cases hd with
    | cons h1 h2 =>
      cases h2
      obtain ⟨p, vs, e1, q1, r1⟩ := orep_lst hK ex h1
      subst e1
      exact call_tuple_of pins s σ H _ us Q I rx ⟨p, vs, rfl, .inl ⟨q1, resT hr r1⟩⟩
  · cases hg
    cases hd with
    | cons h1 h2 =>
      cases h2
      obtain ⟨p, vs, e1, q1, r1⟩ := orep_tup hK ex h1
      subst e1
      rcases h1 with h1 | ⟨ho, _⟩
      · exact call_tuple_of pins s σ H _ us Q I rx ⟨p, vs, rfl, .inr ⟨q1, hr.1 _ h1⟩⟩
      · cases ho
  · cases hg
theorem call_listDN (hK : c.K = X.K) : CallR X (.type "list") (rNN c listD) := by
  intro pins s σ H xs us Q I rx h
  obtain ⟨G, ds, r, ex, hd, hg, hr⟩ := h
  unfold listD at hg
  split at hg
  · cases hg
    cases hd with
    | cons h1 h2 =>
      cases h2
      obtain ⟨p, vs, e1, q1, r1⟩ := orep_lst hK ex h1
      subst e1
      exact call_list_of pins s σ H _ us Q I rx ⟨p, vs, rfl, .inl q1, fun l hl => hr l _ hl (show OD c G (.lst _) (.list _) from r1) (fun _ z => nomatch z)⟩
  · cases hg
    cases hd with
    | cons h1 h2 =>
      cases h2
      obtain ⟨p, vs, e1, q1, r1⟩ := orep_tup hK ex h1
      subst e1
      exact call_list_of pins s σ H _ us Q I rx ⟨p, vs, rfl, .inr q1, fun l hl => hr l _ hl (show OD c G (.lst _) (.list _) from r1) (fun _ z => nomatch z)⟩
  · cases hg
theorem resKN {G H : Hp} {r : D} {Q : VK} (hd : ∀ u : List (D × D), r ≠ .dict u) (h : ResK c G H r Q) : ResN c G H r Q := fun p o hp od _ => h.2 p o hp od hd
theorem call_listDK (hK : c.K = X.K) : CallR X (.type "list") (rDN c listD) := by
  intro pins s σ H xs us Q I rx h
  obtain ⟨G, ds, r, ex, hd, hg, hr⟩ := h
  exact call_listDN hK pins s σ H xs us Q I rx ⟨G, ds, r, ex, hd, hg, resKN (fun u e => by
    subst e
    unfold listD at hg
    split at hg <;> cases hg) hr⟩
theorem orep_ty {G H : Hp} {x : V} {d : D} {K : PySem.W.Frag} (hK : c.K = K) (ex : Ex G H) (h : ORep c G H x d) : TyX K H x (.type (tyName d)) := by
  rcases h with h | ⟨ho, a, o, e, h1, h2⟩
  · cases h with
    | non => exact .base .non
    | bl b => exact .base (.bl b)
    | int i => exact .base (.int i)
    | str x => exact .base (.str x)
    | lst h1 h2 =>
      rcases h1 with (h1 | ⟨o, h1⟩) | ⟨o, its, n, h1, h3, _⟩
      · exact .base (.lst (ex _ _ h1))
      · exact .base (.frz (ex _ _ h1))
      · exact .kList (hK ▸ h1) h3
    | tup h1 h2 => exact .base (.tup (ex _ _ h1))
    | ktup h1 h2 _ =>
      obtain ⟨o, its, n, h1, h3, _⟩ := h1
      exact .kTuple (hK ▸ h1) h3
    | sm h1 h2 =>
      obtain ⟨ob, h1, _⟩ := h1
      exact .fTuple (ex _ _ h1)
  · subst e
    cases d with
    | list ds => cases o with
      | lst xs => exact .base (.lst h1)
      | _ => exact (show False from h2).elim
    | dict ds =>
      have e : tyName (.dict ds) = "dict" := by
        unfold tyName
        split
        all_goals first
          | rfl
          | (rename_i z; cases z; exact absurd rfl (od_no h2 _))
          | (rename_i z; cases z)
      rw [e]
      cases o with
      | dK xs => exact .base (.dK h1)
      | dT xs => exact .base (.dT h1)
      | _ => exact (show False from h2).elim
    | _ => cases ho
theorem e_isi {T : Str} {t : String} {p p2 : Pos} (he : EE X c W n a m) (hm : X.mg "isinstance" = none) (hmT : X.mg T = none) (hT : bootBuiltins T = some (.type t)) (hk : ∀ d : D, kitB (tyName d) t = some (tyName d == t || (tyName d == "bool" && t == "int"))) (hg : Gl X "isinstance" := by rfl) (hgT : Gl X T := by rfl) (hnT : T ≠ "__name__" := by decide) (hdT : (T == ("__debug__" : Str)) = false := by decide)
    (hs : starEach [a, .Name T p2] X.env = (false, eval a X.env) :: starEach [.Name T p2] X.env := by rfl) (hs2 : starEach [.Name T p2] X.env = (false, eval (.Name T p2) X.env) :: starEach [] X.env := by rfl) (hpl : (backTo pos (starEach [.Name T p2] X.env)).any (·.1) = false := by rfl) :
    EE X c W n (.Call (.Name "isinstance" p) [a, .Name T p2] [] pos) (e1 (isiD t) m) := fun k =>
  peMono (pe_callB call_isi hg hm (by decide +kernel) (pa_cons (he k) (pa_cons (pe_bltn (v := .ty t) hgT hmT hT rfl hnT hdT) pa_nil hs2) hs) (by decide) (by decide) hs hpl) fun σ H Q ⟨F, ρ, G, R, p⟩ => tE_bind R p fun o ρ1 G1 H1 y e1 R1 r1 p1 => by
    obtain ⟨d, q1, p2⟩ := res_ok R1 r1 p1
    obtain ⟨r, q2, p3⟩ := Pst.lift p2
    cases q2
    exact ⟨y, .ty t, _, _, _, rfl, .ty t, orep_ty k.hK R1.gh q1, kit_ty (hk d), resB (resK_of R1 p3)⟩
theorem kit_all (t : String) (h : (["NoneType", "bool", "int", "str", "list", "tuple", "dict"].all fun a => kitB a t == some (a == t || (a == "bool" && t == "int"))) = true) : ∀ d : D, kitB (tyName d) t = some (tyName d == t || (tyName d == "bool" && t == "int")) := fun d => by
  simp only [List.all_cons, Bool.and_eq_true, beq_iff_eq] at h
  obtain ⟨h1, h2, h3, h4, h5, h6, h7, _⟩ := h
  cases d
  · exact h1
  · exact h2
  · exact h3
  · exact h4
  · exact h5
  · exact h6
  · rename_i ps
    have e : tyName (.dict ps) = "tuple" ∨ tyName (.dict ps) = "dict" := by
      unfold tyName
      split <;> first | exact .inr rfl | exact .inl rfl | (rename_i z; cases z)
    rcases e with e | e <;> rw [e]
    · exact h6
    · exact h7
theorem kit_int : ∀ d : D, kitB (tyName d) "int" = some (tyName d == "int" || (tyName d == "bool" && "int" == "int")) := kit_all "int" (by decide +kernel)
theorem kit_bool : ∀ d : D, kitB (tyName d) "bool" = some (tyName d == "bool" || (tyName d == "bool" && "bool" == "int")) := kit_all "bool" (by decide +kernel)
theorem kit_str : ∀ d : D, kitB (tyName d) "str" = some (tyName d == "str" || (tyName d == "bool" && "str" == "int")) := kit_all "str" (by decide +kernel)
theorem kit_tuple : ∀ d : D, kitB (tyName d) "tuple" = some (tyName d == "tuple" || (tyName d == "bool" && "tuple" == "int")) := kit_all "tuple" (by decide +kernel)
theorem kit_list : ∀ d : D, kitB (tyName d) "list" = some (tyName d == "list" || (tyName d == "bool" && "list" == "int")) := kit_all "list" (by decide +kernel)
end
end Dn


/-! DnA: more forms of the text. -/
namespace Dn
open PySem PySem.Spec L2 PyProof.Rows

/-- a new list becomes a value -/
def nl (m : M Opd) : M Opd := bnd m fun o => match o with | .val (.list ds) => ret (.val (.list ds)) | _ => fun _ => .stuck
section
variable {X : Cx} {c : Kc} {W : WX} {n : Nat} {md : Bool} {e a b : Expr} {m ma mb mc : M Opd} {ta tb : M Bool} {pos : Pos}
theorem e_nl' {m : M Opd} (h : EN X c W n e m) : EE X c W n e (nl m) := e_nl h

/-! ### l.index(x) -/
theorem findIx_ok {d : D} : ∀ {ys : List D} {k j : Nat}, findIx d ys k = some j → ∃ i z, j = k + i ∧ ys[i]? = some z ∧ PyData.eqv z d = true ∧ ∀ (m : Nat) (z' : D), m < i → ys[m]? = some z' → PyData.eqv z' d = false
  | [], k, j, h => by cases h
  | y :: ys, k, j, h => by
    unfold findIx at h
    by_cases e : PyData.eqv y d = true
    · rw [if_pos e] at h
      cases h
      exact ⟨0, y, rfl, rfl, e, fun m z' hm => absurd hm (Nat.not_lt_zero m)⟩
    · rw [if_neg e] at h
      obtain ⟨i, z, h1, h2, h3, h4⟩ := findIx_ok h
      refine ⟨i + 1, z, by omega, by simpa using h2, h3, fun m z' hm hz => ?_⟩
      cases m with
      | zero =>
        have : y = z' := by simpa using hz
        subst this
        exact Bool.not_eq_true _ ▸ e
      | succ m => exact h4 m z' (by omega) (by simpa using hz)
/-- a method of a value: its kind is looked at first, then come the arguments -/
def mth (T : D → Bool) (g : D → List D → Option D) (m : M Opd) (ms : List (M Opd)) : M Opd :=
  bnd m fun o => bnd (res o) fun d0 => bnd (lift (if T d0 then some () else none)) fun _ => bnd (ops ms) fun os => bnd (res o) fun d => bnd (ress os) fun ds => bnd (lift (g d ds)) fun r => ret (.val r)
def isL : D → Bool
  | .list _ => true
  | _ => false
def rDM (c : Kc) (g : D → List D → Option D) : V → List V → Hp → VK → Prop := fun x xs H Q => ∃ G d ds r, Ex G H ∧ ORep c G H x d ∧ OReps c G H xs ds ∧ g d ds = some r ∧ ResK c G H r Q
theorem e_mth {x : Expr} {es : List Expr} {name : Str} {apos cpos : Pos} {ms : List (M Opd)} {T : String} {id : String} {TB : D → Bool} {g : D → List D → Option D} (pa : PlainAttrs T) (slot : PySem.Slot T name id) (hty : typeOf (.builtin id) = pure (.type "method_descriptor"))
    (hm : Ctx X c W n → MtR X id (rDM c g)) (hT : ∀ {G H : Hp} {x : V} {d : D}, c.K = X.K → Ex G H → ORep c G H x d → TB d = true → tyV X.K T x H) (ho : EE X c W n e m) (hx : EA X c W n (x :: es) (ops ms))
    (hbase : attributeBase e name X.env (eval e X.env) = eval e X.env := by rfl)
    (hfew : ((backTo cpos (starEach (x :: es) X.env)).all (fun x => !x.1) && (backToKw cpos (keywordEach [] X.env)).all (fun x => x.1.isSome)
      && decide ((x :: es).length + ([] : List Keyword).length + (if ([] : List Keyword).isEmpty then 0 else 1) < 30)) = true := by rfl)
    (hline : (apos.endLine == cpos.line) = true := by rfl) (hs : starEach (x :: es) X.env = (false, eval x X.env) :: starEach es X.env := by rfl) (hplain : (backTo cpos (starEach es X.env)).any (·.1) = false := by rfl) :
    EE X c W n (.Call (.Attribute e name apos) (x :: es) [] cpos) (mth TB g m ms) := fun k =>
  peMono (pe_bm pa slot hty (hm k) (ho k) (hx k) hbase hfew hline hs hplain) fun σ H Q ⟨F, ρ, G, R, p⟩ => tE_bind R p fun o ρ1 G1 H1 y e1 R1 r1 p1 => by
    obtain ⟨d0, q0, p2⟩ := res_ok R1 r1 p1
    obtain ⟨_, q1, p3⟩ := Pst.lift p2
    have hT1 : TB d0 = true := by
      by_cases z : TB d0 = true
      · exact z
      · rw [if_neg z] at q1; cases q1
    refine ⟨hT k.hK R1.gh q0 hT1, ?_⟩
    refine tA_bind R1 p3 fun os ρ2 G2 H2 ys e2 R2 r2 p4 => ?_
    obtain ⟨d, q2, p5⟩ := res_ok R2 (r1.mono e2) p4
    obtain ⟨ds, q3, p6⟩ := ress_ok R2 r2 p5
    obtain ⟨r, q4, p7⟩ := Pst.lift p6
    exact ⟨G2, d, ds, r, R2.gh, q2, q3, q4, resK_of R2 p7⟩
theorem tyL {G H : Hp} {x : V} {d : D} (hK : c.K = X.K) (ex : Ex G H) (h : ORep c G H x d) (hT : isL d = true) : tyV X.K "list" x H := by
  cases d with
  | list ds =>
    obtain ⟨a, xs, rfl, h2, _⟩ := orep_lst hK ex h
    exact .inl ⟨rfl, xs, h2⟩
  | _ => cases hT
/-- list.index -/
def indexM : D → List D → Option D := fun d ds => match ds with
  | [x] => match d with
    | .list ys => if SeqAt.shaped (.list ys) && SeqAt.shaped x && (PyData.plain x && PyData.plainAll ys) then (findIx x ys 0).map fun k => .int k else none
    | _ => none
  | _ => none
theorem mt_indexM (hK : c.K = X.K) (hu : X.A.units + 199 < cLine) : MtR X "list.index" (rDM c indexM) := by
  intro pins s σ H x xs v us Q I rx rxs h
  obtain ⟨G, d, ds, r, ex, hd, he, hg, hr⟩ := h
  unfold indexM at hg
  split at hg
  · rename_i x0
    cases he with
    | cons h1 h2 =>
      cases h2
      split at hg
      · rename_i ys
        split at hg
        · rename_i hc
          rw [Bool.and_eq_true, Bool.and_eq_true, Bool.and_eq_true] at hc
          cases hf : findIx x0 ys 0 with
          | none => rw [hf] at hg; cases hg
          | some j =>
            rw [hf] at hg
            cases hg
            obtain ⟨i, z, e1, e2, e3, e4⟩ := findIx_ok hf
            have e1 : j = i := by omega
            subst e1
            obtain ⟨a, vs, rfl, _⟩ := orep_lst hK ex hd
            exact mt_indexD (by omega) pins s σ H _ _ v us Q I rx rxs ⟨a, _, x0, ys, j, z, rfl, rfl, orep_dp' hK ex hd (show PyData.plain (.list ys) = true from hc.2.2), orep_dp' hK ex h1 hc.2.1, hc.1.1, hc.1.2, e2, e3, e4, resI hr⟩
        · cases hg
      · cases hg
  · cases hg
theorem e_index {x : Expr} {apos cpos : Pos} {mx : M Opd} (ho : EE X c W n e m) (hx : EE X c W n x mx)
    (hbase : attributeBase e "index" X.env (eval e X.env) = eval e X.env := by rfl)
    (hfew : ((backTo cpos (starEach [x] X.env)).all (fun x => !x.1) && (backToKw cpos (keywordEach [] X.env)).all (fun x => x.1.isSome)
      && decide ([x].length + ([] : List Keyword).length + (if ([] : List Keyword).isEmpty then 0 else 1) < 30)) = true := by rfl)
    (hline : (apos.endLine == cpos.line) = true := by rfl) (hs : starEach [x] X.env = (false, eval x X.env) :: starEach [] X.env := by rfl) (hplain : (backTo cpos (starEach [] X.env)).any (·.1) = false := by rfl) :
    EE X c W n (.Call (.Attribute e "index" apos) [x] [] cpos) (mth isL indexM m [mx]) :=
  e_mth PySem.F.plainAttrs_list PySem.F.slot_list_index PySem.F.type_list_index (fun k => mt_indexM k.hK k.hu) (fun hK ex h hT => tyL hK ex h hT) ho (a_cons hx a_nil hs) hbase hfew hline hs hplain

/-! ### name = [.. for ..] -/
theorem asg_lc {i : Nat} {y : Str} {py : Pos} {tgt iter elt : Expr} {ifs : List Expr} {scope : Scope} {own : List (Str × Nat)} {t : Tg} {im : M (List D)} {ts : M Bool} {el : M Opd} {spos : Pos} (hi : IT X c W n tgt iter im) (hb : Blk X c n scope tgt t ifs ts elt el)
    (ok : blkC X.N X.env.scope scope own = true) (hsw : swapsWith (.ListComp elt [⟨tgt, iter, ifs, 0⟩] scope pos) (some (.Name y py)) spos.line X.env = pure true) (hy : X.N[i]? = some y) (hyl : X.env.scope.names.lookup y = some .local) (hj : ∀ j ∈ tgS t, j ∈ own.map (·.2)) (hs : ∀ x, foldedSetIterable iter X.env x = pure x) (k : Ctx X c W n) :
    PS X (.Assign [.Name y py] (.ListComp elt [⟨tgt, iter, ifs, 0⟩] scope pos) spos) (tAsg (tN c W (lcI im t (own.map (·.2)) ts el)) (gName i)) :=
  psMono (ps_setLc k.calm k.nd hy hyl hsw (hi k) (blkOk_by ok) (fun s H C cl fp => hb.g s H C cl fp k.hK k.calm) (fun s H C cl fp => hb.t s H C cl fp k.blk) (fun s H C cl fp => hb.e s H C cl fp k.blk) hs) fun E σ H ⟨F, ρ, G, R, p⟩ =>
    ⟨F, ρ, G, R, Pst.bind p fun ds ρ1 G1 H1 e1 R1 p1 J hJ q hq => by
      have p1 : Pst c F W σ G1 (if ds.length ≤ 100000 then (match lcN (ofL ds) always t (own.map (·.2)) ts el ds.length 0 [] (wipeD ρ1 (own.map (·.2))) with
        | .ok rs ρ' => Dn.R.ok (Opd.val (.list rs)) (backD ρ1 ρ' (own.map (·.2)))
        | _ => .stuck)
        else .stuck) _ := p1
      by_cases hN : ds.length ≤ 100000
      · rw [if_pos hN] at p1
        split at p1
        · rename_i rs ρ' heq
          exact lc_run (Q := fun x H1 => gName i x σ H1 E.nx) R1 hJ (fun _ _ => trivial) hq hN (fun _ _ _ _ z => z) (fun _ _ _ z => z) (fun _ _ _ z => z) hj heq fun G2 H2 e2 R2 f2 => p1 G2 H2 e2 R2 _ q rfl f2
        · exact (show False from p1).elim
      · rw [if_neg hN] at p1
        exact (show False from p1).elim⟩
theorem s_setVLc {i : Nat} {y : Str} {py : Pos} {tgt iter elt : Expr} {ifs : List Expr} {scope : Scope} {own : List (Str × Nat)} {t : Tg} {im : M (List D)} {ts : M Bool} {el : M Opd} {spos : Pos} (hi : IT X c W n tgt iter im) (hb : Blk X c n scope tgt t ifs ts elt el)
    (ok : blkC X.N X.env.scope scope own = true) (hsw : swapsWith (.ListComp elt [⟨tgt, iter, ifs, 0⟩] scope pos) (some (.Name y py)) spos.line X.env = pure true := by exact sw_true rfl rfl rfl rfl) (hy : X.N[i]? = some y := by rfl) (hyl : X.env.scope.names.lookup y = some .local := by rfl) (hj : ∀ j ∈ tgS t, j ∈ own.map (·.2) := by decide) (hs : ∀ x, foldedSetIterable iter X.env x = pure x := by intro _; rfl) :
    SS X c W n md (.Assign [.Name y py] (.ListComp elt [⟨tgt, iter, ifs, 0⟩] scope pos) spos) (setV i (lcI im t (own.map (·.2)) ts el)) := fun k =>
  psMono (asg_lc hi hb ok hsw hy hyl hj hs k) fun E σ H ⟨F, ρ, G, R, p⟩ => ⟨F, ρ, G, R, by
    have p : PstS c F md W E G ((lcI im t (own.map (·.2)) ts el ρ).fl fun o => exe (stab o) fun d => fun ρ => .next (ρ.set i (.val d))) := p
    cases er : lcI im t (own.map (·.2)) ts el ρ with
    | ok o ρ' =>
      rw [er] at p
      obtain ⟨ds, eo⟩ := lcI_is _ _ _ er
      subst eo
      refine fun G1 H1 e1 R1 d q ed fr => ?_
      cases ed
      obtain ⟨G2, e2, R2, r2⟩ := fr.know R1
      exact (show PstS c F md W E G (.next (ρ'.set i (.val (.list ds)))) from p) _ G2 H1 (e1.trans e2) (R2.setv r2)
    | exc x ρ' => rw [er] at p; exact fun cls dd G' H' e' R' hx => p cls dd σ G' H' e' R' hx
    | stuck => rw [er] at p; exact p⟩
theorem s_setOLc {i : Nat} {y : Str} {py : Pos} {tgt iter elt : Expr} {ifs : List Expr} {scope : Scope} {own : List (Str × Nat)} {t : Tg} {im : M (List D)} {ts : M Bool} {el : M Opd} {spos : Pos} (hi : IT X c W n tgt iter im) (hb : Blk X c n scope tgt t ifs ts elt el)
    (ok : blkC X.N X.env.scope scope own = true) (hsw : swapsWith (.ListComp elt [⟨tgt, iter, ifs, 0⟩] scope pos) (some (.Name y py)) spos.line X.env = pure true := by exact sw_true rfl rfl rfl rfl) (hy : X.N[i]? = some y := by rfl) (hyl : X.env.scope.names.lookup y = some .local := by rfl) (hj : ∀ j ∈ tgS t, j ∈ own.map (·.2) := by decide) (hs : ∀ x, foldedSetIterable iter X.env x = pure x := by intro _; rfl) :
    SS X c W n md (.Assign [.Name y py] (.ListComp elt [⟨tgt, iter, ifs, 0⟩] scope pos) spos) (setO i (lcI im t (own.map (·.2)) ts el)) := fun k =>
  psMono (asg_lc hi hb ok hsw hy hyl hj hs k) fun E σ H ⟨F, ρ, G, R, p⟩ => ⟨F, ρ, G, R, Pst.flE p fun o ρ1 G1 H1 ex R1 p1 d q eo fr => by
    subst eo
    exact (show PstS c F md W E G1 (.next (ρ1.set i (.own true d))) from p1) _ G1 H1 (Ex.refl G1) (R1.seto fr)⟩
end
end Dn


/-! DnZ: constants of the module; the law's end. -/
namespace Dn
open PySem PySem.Spec L2 PyProof.Rows
/-- a constant of the module -/
def GOk (mg : Str → Option Value) (c : Kc) (x : Str) (d : D) : Prop := ∃ v u, mg x = some u ∧ RelV v u ∧ Rep c (fun _ => none) v d
section
variable {X : Cx} {c : Kc} {W : WX} {n : Nat} {pos : Pos}
theorem e_gk {x : Str} {d : D} (h : GOk X.mg c x d) (hg : Gl X x := by rfl) (hd : (x == ("__debug__" : Str)) = false := by decide) : EE X c W n (.Name x pos) (Dn.c d) := by
  obtain ⟨v, u, h1, h2, h3⟩ := h
  exact e_gl h1 h2 h3 hg hd
end
/-- what a written value is -/
inductive WR (K : PySem.W.Frag) : Value → D → Prop
  | non : WR K .none .none
  | bl (b : Bool) : WR K (.bool b) (.bool b)
  | int (i : Int) (t : Tok) : WR K (.int i t) (.int i)
  | str (x : Str) (t : Tok) : WR K (.str x t) (.str x)
  | tup {a : Addr} {d : Option Addr} {its : List Value} {ds : List D} {n : Nat} {sl : Array (Option Value)} : K.lookup a = some ⟨.type "tuple", d, .seq its.toArray n, sl⟩ → its.length ≤ 1000000 → Paired (fun v d => WR K v d) its ds → WR K (.ref a) (.tuple ds)
theorem wr_nil {K : PySem.W.Frag} : Paired (fun v d => WR K v d) [] [] := .nil
theorem wr_cons {K : PySem.W.Frag} {v : Value} {d : D} {vs : List Value} {ds : List D} (h : WR K v d) (t : Paired (fun v d => WR K v d) vs ds) : Paired (fun v d => WR K v d) (v :: vs) (d :: ds) := .cons h t
mutual
/-- each tuple within is as f asks -/
def allK (f : D → Bool) : D → Bool
  | .tuple ds => f (.tuple ds) && allKs f ds
  | _ => true
def allKs (f : D → Bool) : List D → Bool
  | [] => true
  | d :: ds => allK f d && allKs f ds
end
theorem WR.rep {c : Kc} {K : PySem.W.Frag} (hK : c.K = K) {v : Value} {d : D} (hk : allK c.kc d = true) (h : WR K v d) : ∃ x, RelV x v ∧ Rep c (fun _ => none) x d := by
  have main : ∀ (n : Nat) {v : Value} {d : D}, sizeOf d ≤ n → allK c.kc d = true → WR K v d → ∃ x, RelV x v ∧ Rep c (fun _ => none) x d := by
    intro n
    induction n with
    | zero => intro v d hn hk h; cases d <;> simp at hn
    | succ n ih =>
      intro v d hn hk h
      cases h with
      | non => exact ⟨.non, rfl, .non⟩
      | bl b => exact ⟨.bl b, rfl, .bl b⟩
      | int i t => exact ⟨.int i, ⟨t, rfl⟩, .int i⟩
      | str x t => exact ⟨.str x, ⟨t, rfl⟩, .str x⟩
      | @tup a dd its ds n' sl hl hz hp =>
        have all : ∀ {its : List Value} {ds : List D}, sizeOf ds ≤ n → allKs c.kc ds = true → Paired (fun v d => WR K v d) its ds → ∃ xs, Vals xs its ∧ RepA c (fun _ => none) xs ds := by
          intro its ds hs hk hp
          induction hp with
          | nil => exact ⟨[], .nil, .nil⟩
          | cons h1 t ih2 =>
            simp at hs
            have hk := Bool.and_eq_true_iff.mp (show (allK c.kc _ && allKs c.kc _) = true from hk)
            obtain ⟨x, r1, r2⟩ := ih (by omega) hk.1 h1
            obtain ⟨xs, r3, r4⟩ := ih2 (by omega) hk.2
            exact ⟨x :: xs, .cons r1 r3, .cons r2 r4⟩
        simp at hn
        have hk := Bool.and_eq_true_iff.mp (show (c.kc _ && allKs c.kc _) = true from hk)
        obtain ⟨xs, r1, r2⟩ := all (by omega) hk.2 hp
        exact ⟨.ref a, rfl, .ktup ⟨_, _, n', by rw [hK]; exact hl, rfl, rfl, by rw [List.size_toArray]; exact Nat.le_trans hz (by decide), r1⟩ r2 hk.1⟩
  exact main _ (Nat.le_refl _) hk h
theorem gok_of {mg : Str → Option Value} {c : Kc} {K : PySem.W.Frag} {x : Str} {v : Value} {d : D} (hK : c.K = K) (hk : allK c.kc d = true) (hm : mg x = some v) (h : WR K v d) : GOk mg c x d := by
  obtain ⟨y, r1, r2⟩ := WR.rep hK hk h
  exact ⟨y, v, hm, r1, r2⟩
theorem repA_ints {c : Kc} {G : Hp} : ∀ ns : List Int, RepA c G (ns.map V.int) (ns.map PyData.int)
  | [] => .nil
  | n :: ns => .cons (.int n) (repA_ints ns)
/-- the law's promise, from what its value is -/
theorem law_sp {c : Kc} {K : PySem.W.Frag} {f : FD} {H : Hp} {a : Addr} {ns : List Int} (hK : c.K = K) (hS : SqL K H a (ns.map V.int)) (h : f [.list (ns.map PyData.int)] = .ok (.bool true) []) : spF c f [false] false [.ref a] H (fun v _ => v = .bl true) fun _ _ _ => False := by
  refine ⟨⟨H, fun _ => False, fun b => H b = none, fun _ => none⟩, H, [.list (ns.map PyData.int)], rfl, rfl, ⟨rfl, Ex.refl H, Ex.refl H, fun _ z => z.elim, fun _ z => z.elim, fun b z => z, fun i s z => ?_, fun i j k l d e b hne z1 z2 y1 y2 => ?_, fun _ _ z => z⟩, ?_⟩
  · cases i with
    | zero =>
      have z : some (Slot.val (.list (ns.map PyData.int))) = some s := z
      cases z
      exact ⟨_, rfl, .lst (hK ▸ hS) (repA_ints ns)⟩
    | succ i => simp [entry] at z
  · cases i with
    | zero =>
      have z1 : some (Slot.val (.list (ns.map PyData.int))) = some (Slot.own k d) := z1
      cases z1
    | succ i => simp [entry] at z1
  · rw [h]
    intro x σ' G' H' e R r
    cases (show Rep c G' x (.bool true) from r)
    rfl
theorem cx_no {P : Program} {w : World} {H : Hp} {s : Shared} {e : Value} {s' : Shared} (h : L2.CX P w [] H s (fun _ _ _ => False) e s') : False := by
  obtain ⟨_, _, _, _, _, _, _, _, _, _, _, _, h⟩ := h
  exact h
end Dn


/-! DnD: dicts: written ones of the module, own ones. -/
namespace Dn
open PySem PySem.Spec L2 PyProof.Rows

/-! ### a written dict -/
def lookS (tbl : List (Str × D)) (z : Str) : Option D := (tbl.find? fun p => p.1 == z).map (·.2)
/-- a dict of the module: text keys -/
def KOk (K : PySem.W.Frag) (w : World) (mg : Str → Option Value) (c : Kc) (x : Str) (tbl : List (Str × D)) : Prop :=
  ∃ a es n, mg x = some (.ref a) ∧ KDict K w a es n ∧ ∀ z, match lookS tbl z with
    | some d => ∃ u v, PySem.W.nsIn K a z = some (some u) ∧ RelV v u ∧ Rep c (fun _ => none) v d
    | none => PySem.W.nsIn K a z = some none
def kixD (tbl : List (Str × D)) : D → Option D
  | .str z => lookS tbl z
  | _ => none
section
variable {X : Cx} {c : Kc} {W : WX} {n : Nat} {md : Bool} {e a b : Expr} {m ma mb mc : M Opd} {pos : Pos}
/-- C[e] -/
theorem e_kix {x : Str} {p : Pos} {tbl : List (Str × D)} (h : KOk X.K X.w X.mg c x tbl) (hb : EE X c W n b mb) (hg : Gl X x := by rfl) (hd : (x == ("__debug__" : Str)) = false := by decide) (hs : PlainIx b := by exact fun _ _ => rfl) : EE X c W n (.Subscript (.Name x p) b pos) (e1 (kixD tbl) mb) := fun k => by
  obtain ⟨a, es, nn, h1, h2, h3⟩ := h
  refine peMono (pe_ix ix_kdict (pe_glob (v := .ref a) hg h1 rfl hd) (hb k) hs) fun σ H Q ⟨F, ρ, G, R, q⟩ => ?_
  refine tE_bind R q fun o ρ1 G1 H1 y e1 R1 r1 p1 => ?_
  obtain ⟨d, q1, p2⟩ := res_ok R1 r1 p1
  obtain ⟨r, q2, p3⟩ := Pst.lift p2
  unfold kixD at q2
  split at q2
  · rename_i z
    have h4 := h3 z
    rw [q2] at h4
    obtain ⟨u, v, h5, h6, h7⟩ := h4
    rw [orep_str q1]
    exact ⟨a, z, v, rfl, rfl, ⟨es, nn, u, h2.at_, h2.lit, h5, h6⟩, (resK_of R1 p3).1 v (h7.mono fun _ _ z => (by cases z))⟩
  · cases q2
/-- C.get(e, f) -/
def kgetD (tbl : List (Str × D)) : D → D → Option D
  | .str z, d => some ((lookS tbl z).getD d)
  | _, _ => none
/-- C.get(e, f) -/
def kget (tbl : List (Str × D)) (m mf : M Opd) : M Opd := bnd m fun o => bnd mf fun o2 => bnd (res o) fun d => bnd (stab o2) fun d2 => bnd (lift (kgetD tbl d d2)) fun r => ret (.val r)
theorem e_kget {x : Str} {p apos cpos : Pos} {tbl : List (Str × D)} {f : Expr} {mf : M Opd} (h : KOk X.K X.w X.mg c x tbl) (he : EE X c W n e m) (hf : EE X c W n f mf) (hg : Gl X x := by rfl) (hd : (x == ("__debug__" : Str)) = false := by decide)
    (m2 : M2 X (.Name x p) "get" apos e f cpos := by exact ⟨rfl, rfl, rfl, rfl⟩) : EE X c W n (.Call (.Attribute (.Name x p) "get" apos) [e, f] [] cpos) (kget tbl m mf) := fun k => by
  obtain ⟨a, es, nn, h1, h2, h3⟩ := h
  refine ⟨fun pins s σ H Q I h => ?_⟩
  have hm0 := PySem.W.mapOf_K (prog := X.prog) (w := X.w) I.kIn h2.at_ h2.lit
  refine wpAny_Call_method m2.base m2.few m2.line PySem.F.plainAttrs_dict PySem.F.slot_dict_get PySem.F.type_dict_get (thn ((pe_glob (v := .ref a) hg h1 rfl hd).run pins s σ H _ I (show tC (.ref a) σ H (fun x H1 => x = .ref a ∧ tE c W (kget tbl m mf) σ H1 Q) from ⟨rfl, h⟩)) fun u s1 ⟨x, H1, I1, rx, ex, q1⟩ => ?_)
  subst ex
  obtain rfl : u = Value.ref a := rx
  have hm1 := PySem.W.mapOf_K (prog := X.prog) (w := X.w) I1.kIn h2.at_ h2.lit
  refine ⟨hm1.typeIs, fun b q => ?_, ?_⟩
  · cases q
    exact ⟨_, I1.kIn _ _ h2.at_, rfl⟩
  rw [m2.trees]
  obtain ⟨F, ρ, G, R, q1⟩ := q1
  have t1 : tE c W m σ H1 fun x H2 => tE c W mf σ H2 fun y H3 => ∃ z r v, x = .str z ∧ PySem.W.nsIn X.K a z = some r ∧ RelV v (r.getD (.int 0 0)) ∧ (r.isSome → Q v H3) ∧ (r = none → Q y H3) := by
    refine tE_bind R q1 fun o ρ1 G1 H2 x e1 R1 r1 p1 => tE_bind R1 p1 fun o2 ρ2 G2 H3 y e2 R2 r2 p2 => ?_
    obtain ⟨d, q2, p3⟩ := res_ok R2 (r1.mono e2) p2
    obtain ⟨d2, q3, p4⟩ := stab_ok (H := H3) r2 p3
    obtain ⟨r, q4, p5⟩ := Pst.lift p4
    unfold kgetD at q4
    split at q4
    · rename_i z
      have h4 := h3 z
      cases hl : lookS tbl z with
      | some d' =>
        rw [hl] at h4 q4
        obtain ⟨u, v, h5, h6, h7⟩ := h4
        cases q4
        exact ⟨z, some u, v, orep_str q2, h5, h6, fun _ => (resK_of R2 p5).1 v (h7.mono fun _ _ z => (by cases z)), fun z => nomatch z⟩
      | none =>
        rw [hl] at h4 q4
        cases q4
        exact ⟨z, none, .int 0, orep_str q2, h4, ⟨0, rfl⟩, fun z => (by cases z), fun _ => (resK_of R2 p5).1 y q3⟩
    · cases q4
  refine Calls.callWith_builtin rfl (Calls.evalArgs_plain (Calls.spliced_cons (thn ((he k).run pins s1 σ H1 _ I1 t1) fun iv s2 ⟨x, H2, I2, rx, q2⟩ =>
    Calls.spliced_cons (thn ((hf k).run pins s2 σ H2 _ I2 q2) fun fv s3 ⟨y, H3, I3, ry, z, r, v, ex, hn, hv, w1, w2⟩ => Calls.spliced_nil ?_))))
  subst ex
  obtain ⟨t, rfl⟩ := (show ∃ t, iv = Value.str z t from rx)
  have hm3 := PySem.W.mapOf_K (prog := X.prog) (w := X.w) I3.kIn h2.at_ h2.lit
  refine call_meetsIn PySem.F.slot_dict_get hm3.typeIs PySem.F.entry_dict_get (PySem.F.args_dict_get_3 _ _ _) (meets_dict_get_default (strKind X.prog X.w) a (strKind_is X.prog X.w z t) h2.low fv) ⟨_, hm3, ?_⟩
  rw [PySem.W.find_K h2.at_ hn]
  cases r with
  | none => exact ⟨y, H3, I3.tok _, ry, w2 rfl⟩
  | some u => exact ⟨v, H3, I3.tok _, hv, w1 rfl⟩
end
/-- the entries of a written dict -/
def EntR (P : Params) (K : PySem.W.Frag) (e : DictEntry) (p : Str × D) : Prop := ∃ t v, e = ⟨PyData.keyHash P p.1, .str p.1 t, v⟩ ∧ WR K v p.2
theorem ent_nil {P : Params} {K : PySem.W.Frag} : Paired (EntR P K) [] [] := .nil
theorem ent_cons {P : Params} {K : PySem.W.Frag} {x : Str} {t : Tok} {v : Value} {d : D} {es : List DictEntry} {ps : List (Str × D)} (h : WR K v d) (r : Paired (EntR P K) es ps) : Paired (EntR P K) (⟨PyData.keyHash P x, .str x t, v⟩ :: es) ((x, d) :: ps) := .cons ⟨t, v, rfl, h⟩ r
theorem ent_lit {P : Params} {K : PySem.W.Frag} {es : List DictEntry} {ps : List (Str × D)} (h : Paired (EntR P K) es ps) : PySem.W.KeysLit P es := by
  induction h with
  | nil => trivial
  | cons h1 t ih =>
    obtain ⟨tk, v, rfl, _⟩ := h1
    exact ⟨⟨_, tk, rfl, rfl⟩, ih⟩
theorem ent_find {P : Params} {K : PySem.W.Frag} {es : List DictEntry} {ps : List (Str × D)} (z : Str) (h : Paired (EntR P K) es ps) : match lookS ps z with
    | some d => ∃ e, es.find? (·.key.isStr z) = some e ∧ WR K e.val d
    | none => es.find? (·.key.isStr z) = none := by
  induction h with
  | nil => rfl
  | @cons e p es ps h1 t ih =>
    obtain ⟨tk, v, rfl, hw⟩ := h1
    have e1 : (Value.str p.1 tk).isStr z = (p.1 == z) := rfl
    unfold lookS
    rw [List.find?_cons, List.find?_cons]
    simp only [e1]
    cases hz : (p.1 == z) with
    | true => exact ⟨_, rfl, hw⟩
    | false => exact ih
theorem ent_ref {P : Params} {K : PySem.W.Frag} {es : List DictEntry} {ps : List (Str × D)} (h : Paired (EntR P K) es ps) : es.any (·.refKey) = false := by
  induction h with
  | nil => rfl
  | cons h1 t ih =>
    obtain ⟨tk, v, rfl, _⟩ := h1
    rw [List.any_cons, ih]
    rfl
theorem kok_of {K : PySem.W.Frag} {w : World} {mg : Str → Option Value} {c : Kc} {x : Str} {a : Addr} {es : List DictEntry} {n : Nat} {tbl : List (Str × D)} (hK : c.K = K) (hk : ∀ p ∈ tbl, allK c.kc p.2 = true) (hm : mg x = some (.ref a))
    (hl : K.lookup a = some ⟨.type "dict", none, .dict es.toArray n, #[]⟩) (low : (a == sysModules) = false) (h : Paired (EntR w.params K) es tbl) : KOk K w mg c x tbl := by
  refine ⟨a, es.toArray, n, hm, ⟨hl, ent_lit h, low⟩, fun z => ?_⟩
  have hf := ent_find z h
  have hn : PySem.W.nsIn K a z = (match es.find? (·.key.isStr z) with
      | some e => some (some e.val)
      | none => if es.any (·.refKey) then none else some none) := by
    unfold PySem.W.nsIn
    rw [hl]
    simp only [List.toList_toArray]
    rfl
  split
  · rename_i d hd
    rw [hd] at hf
    obtain ⟨e, h1, h2⟩ := hf
    rw [h1] at hn
    obtain ⟨v, r1, r2⟩ := WR.rep hK (by
      unfold lookS at hd
      cases hq : tbl.find? (fun p => p.1 == z) with
      | none => rw [hq] at hd; cases hd
      | some q =>
        rw [hq] at hd
        have e : q.2 = d := Option.some.inj hd
        rw [← e]
        exact hk q (List.mem_of_find?_eq_some hq)) h2
    exact ⟨e.val, v, hn, r1, r2⟩
  · rename_i hd
    rw [hd] at hf
    have hf : es.find? (·.key.isStr z) = none := hf
    rw [hf, ent_ref h] at hn
    exact hn
end Dn


/-! DnE: own dicts; slices; a new object as an argument; two at once. -/
namespace Dn
open PySem PySem.Spec L2 PyProof.Rows

/-! ### own dicts: keys ints and texts, or (the first entry none: none) tuples of these -/
def isKey : D → Bool
  | .int _ => true
  | .str _ => true
  | _ => false
def lookD (ps : List (D × D)) (k : D) : Option D := (ps.find? fun p => PyData.eqv p.1 k).map (·.2)
def putL (ps : List (D × D)) (k x : D) : List (D × D) := if ps.any fun p => PyData.eqv p.1 k then ps.map fun p => if PyData.eqv p.1 k then (p.1, x) else p else ps ++ [(k, x)]
/-- d[k] of a dict with plain keys -/
def dixD (d k : D) : Option D := match d with
  | .dict ps => if isKey k then lookD ps k else none
  | _ => none
def noMark : List (D × D) → Bool
  | (.none, _) :: _ => false
  | _ => true
/-- d[k] = x -/
def dputD (k x : D) : D → Option D
  | .dict ps => if isKey k && noMark ps && decide (ps.length < 1000000) then some (.dict (putL ps k x)) else none
  | _ => none
theorem key_of_isKey {k : D} (h : isKey k = true) : ∃ kk : Key, k = keyD kk := by
  cases k with
  | int i => exact ⟨.inl i, rfl⟩
  | str s => exact ⟨.inr s, rfl⟩
  | _ => cases h
theorem keyD_eqv (a b : Key) : PyData.eqv (keyD a) (keyD b) = decide (a = b) := by
  cases a <;> cases b <;> simp [keyD, PyData.eqv, Bool.beq_eq_decide_eq]
section
variable {c : Kc} {G H : Hp}
theorem look_pair {kvs : List (Key × V)} {ps : List (D × D)} (h : Paired (fun (kv : Key × V) (p : D × D) => p.1 = keyD kv.1 ∧ Rep c G kv.2 p.2) kvs ps) (k : Key) : match lookD ps (keyD k) with
    | some d => ∃ v, valV kvs k = some v ∧ Rep c G v d
    | none => valV kvs k = none := by
  induction h with
  | nil => rfl
  | @cons kv p kvs ps h1 t ih =>
    obtain ⟨e, r⟩ := h1
    unfold lookD
    rw [List.find?_cons, e, keyD_eqv]
    by_cases z : kv.1 = k
    · rw [decide_eq_true z, valV_pos z]
      exact ⟨_, rfl, r⟩
    · rw [decide_eq_false z, valV_neg z]
      exact ih
theorem put_pair {kvs : List (Key × V)} {ps : List (D × D)} {v : V} {d : D} (h : Paired (fun (kv : Key × V) (p : D × D) => p.1 = keyD kv.1 ∧ Rep c G kv.2 p.2) kvs ps) (k : Key) (r : Rep c G v d) :
    Paired (fun (kv : Key × V) (p : D × D) => p.1 = keyD kv.1 ∧ Rep c G kv.2 p.2) (putK kvs k v) (putL ps (keyD k) d) := by
  have e : (kvs.any fun kv => decide (kv.1 = k)) = ps.any fun p => PyData.eqv p.1 (keyD k) := by
    induction h with
    | nil => rfl
    | cons h1 t ih => rw [List.any_cons, List.any_cons, ih, h1.1, keyD_eqv]
  have mp : Paired (fun (kv : Key × V) (p : D × D) => p.1 = keyD kv.1 ∧ Rep c G kv.2 p.2) (kvs.map fun kv => if kv.1 = k then (kv.1, v) else kv) (ps.map fun p => if PyData.eqv p.1 (keyD k) then (p.1, d) else p) := by
    clear e
    induction h with
    | nil => exact .nil
    | @cons kv p kvs ps h1 t ih =>
      rw [List.map_cons, List.map_cons]
      refine .cons ?_ ih
      rw [h1.1, keyD_eqv]
      by_cases z : kv.1 = k
      · rw [if_pos z, if_pos (decide_eq_true z)]
        exact ⟨rfl, r⟩
      · rw [if_neg z, if_neg (by rw [decide_eq_false z]; exact Bool.false_ne_true)]
        exact h1
  have ap : ∀ {l1 : List (Key × V)} {l2 : List (D × D)}, Paired (fun (kv : Key × V) (p : D × D) => p.1 = keyD kv.1 ∧ Rep c G kv.2 p.2) l1 l2 → Paired (fun (kv : Key × V) (p : D × D) => p.1 = keyD kv.1 ∧ Rep c G kv.2 p.2) (l1 ++ [(k, v)]) (l2 ++ [(keyD k, d)]) := by
    intro l1 l2 h
    induction h with
    | nil => exact .cons ⟨rfl, r⟩ .nil
    | cons h1 t ih => exact .cons h1 ih
  unfold putK putL
  rw [e]
  split
  · exact mp
  · exact ap h
end

/-! ### under guard -/
section
variable {c : Kc} {F : Fr} {W : WX} {ρ : Env} {σ : L2.St} {G H : Hp} {q : Addr} {o : HO}
theorem Rel.off (R : Rel c (F.prot q o) ρ σ G H) (b1 : F.B q = none) : Rel c F ρ σ G H := by
  refine ⟨R.len, R.gh, fun a u e => ?_, fun a z => R.xg a (.inl z), fun a z => R.xh a (.inl z), R.nh, fun i s z => ?_, R.dj, R.tk⟩
  · have ne : a ≠ q := fun ee => by subst ee; rw [b1] at e; cases e
    exact R.bh a u (by show upd F.B q o a = some u; rw [upd_ne ne]; exact e)
  · obtain ⟨u, e, y⟩ := R.sl i s z
    refine ⟨u, e, ?_⟩
    cases s with
    | un => trivial
    | val d0 => cases u with
      | none => exact y.elim
      | some _ => exact y
    | own k d0 => cases u with
      | none => exact y.elim
      | some v0 => cases v0 with
        | ref a =>
          obtain ⟨y1, y2, y3, y4⟩ := y
          have ne : a ≠ q := fun ee => y3 (.inr ee)
          have y2 : upd F.B q o a = none := y2
          rw [upd_ne ne] at y2
          exact ⟨y1, y2, fun w => y3 (.inl w), y4⟩
        | _ => exact y.elim
theorem Pst.prot {α : Type} {r : Dn.R α} {K : α → Env → Hp → Hp → Prop} (b1 : F.B q = none) (h : Pst c F W σ G r K) : Pst c (F.prot q o) W σ G r K := by
  cases r with
  | ok a ρ' => exact fun G' H' e R => h G' H' e (R.off b1)
  | exc x ρ' => exact fun cls dd G' H' e R hx => h cls dd G' H' e (R.off b1) hx
  | stuck => exact h
end

/-! ### {k: v, ..} -/
def dct (ks : List Str) (ms : List (M Opd)) : M Opd := bnd (ops ms) fun os => bnd (stabs os) fun ds => ret (.val (.dict ((ks.map PyData.str).zip ds)))
section
variable {X : Cx} {c : Kc} {W : WX} {n : Nat} {md : Bool} {e a b : Expr} {m ma mb mc : M Opd} {pos : Pos}
def EPs (X : Cx) (c : Kc) (W : WX) (n : Nat) (pos : Pos) (keys : List (Option Expr)) (values : List Expr) (ks : List Str) (m : M (List Opd)) : Prop :=
  Ctx X c W n → ∃ trs, PPs X pos keys values trs ∧ ∀ σ H Q, tA c W m σ H (fun xs H' => xs.length = ks.length → Q ((ks.map V.str).zip xs) H') → tPairs trs σ H Q
theorem p_nil : EPs X c W n pos [] [] [] (ops []) := fun _ => ⟨[], pps_nil, fun σ H Q ⟨F, ρ, G, R, p⟩ => Pst.use p R [] .nil rfl⟩
theorem p_cons {z : Str} {j : Nat} {kp : Pos} {v : Expr} {ks : List (Option Expr)} {vs : List Expr} {zs : List Str} {ms : List (M Opd)} (hv : EE X c W n v m) (hr : EPs X c W n pos ks vs zs (ops ms)) : EPs X c W n pos (some (.Constant (.str z) j kp) :: ks) (v :: vs) (z :: zs) (ops (m :: ms)) := fun k => by
  obtain ⟨trs, h1, h2⟩ := hr k
  refine ⟨_, pps_cons pe_str (hv k) h1, fun σ H Q ⟨F, ρ, G, R, p⟩ => ?_⟩
  show tE c W m σ H fun y H2 => tPairs trs σ H2 fun ps H3 => Q ((.str z, y) :: ps) H3
  refine tE_bind R p fun o ρ1 G1 H1 x e1 R1 r1 p1 => h2 _ _ _ ⟨F, ρ1, G1, R1, Pst.bind p1 fun os ρ2 G2 H2 e2 R2 p2 xs rx hl => ?_⟩
  exact Pst.use p2 R2 (x :: xs) (.cons (r1.mono e2) rx) (by simp [hl])
theorem merge_nodup : ∀ (more kvs : List (Key × V)), (∀ p ∈ more, ∀ q ∈ kvs, q.1 ≠ p.1) → (more.map (·.1)).Nodup → mergeK kvs more = kvs ++ more
  | [], kvs, _, _ => by simp [mergeK]
  | p :: r, kvs, h, hn => by
    have e : putK kvs p.1 p.2 = kvs ++ [p] := by
      unfold putK
      rw [if_neg]
      rw [List.any_eq_true]
      rintro ⟨q, hq, z⟩
      exact h p List.mem_cons_self q hq (of_decide_eq_true z)
    have hn := List.nodup_cons.mp (by simpa using hn : (p.1 :: r.map (·.1)).Nodup)
    have ih := merge_nodup r (kvs ++ [p]) (fun x hx q hq => by
      rcases List.mem_append.mp hq with z | z
      · exact h x (List.mem_cons_of_mem _ hx) q z
      · rw [List.mem_singleton.mp z]
        intro ee
        exact hn.1 (List.mem_map.mpr ⟨x, hx, ee.symm⟩)) hn.2
    show mergeK (putK kvs p.1 p.2) r = _
    rw [e, ih, List.append_assoc]
    rfl
theorem pair_zip {G : Hp} : ∀ {ks : List Str} {xs : List V} {ds : List D}, RepA c G xs ds → Paired (fun (kv : Key × V) (p : D × D) => p.1 = keyD kv.1 ∧ Rep c G kv.2 p.2) ((ks.map fun z => (Sum.inr z : Key)).zip xs) ((ks.map PyData.str).zip ds)
  | [], _, _, _ => by simp; exact .nil
  | k :: ks, _, _, .nil => by simp; exact .nil
  | k :: ks, _, _, .cons h t => by
    simp only [List.map_cons, List.zip_cons_cons]
    exact .cons ⟨rfl, h⟩ (pair_zip t)
theorem n_dct {keys : List (Option Expr)} {values : List Expr} {ks : List Str} {ms : List (M Opd)} (h : EPs X c W n pos keys values ks (ops ms)) (hn : ks.Nodup := by decide) (h15 : ks.length ≤ 15 := by decide) (hk : keys.length = ks.length := by rfl)
    (hall : keys.all (·.isSome) = true := by rfl) (hl : keys.length = values.length := by rfl) (h0 : keys ≠ [] := by exact fun z => nomatch z) : EN X c W n (.Dict keys values pos) (dct ks ms) := fun k => by
  obtain ⟨trs, h1, h2⟩ := h k
  refine peMono (pe_disp h1 hall hl h0 (by omega)) fun σ H Q ⟨F, ρ, G, R, p⟩ => fun q hq => ?_
  have od0 : OD c G (.dK []) (.dict []) := .nil
  have R1 := R.hid (o := .dK []) hq (fun _ z => nomatch z)
  have f1 := R.fresh (o := .dK []) hq od0
  have R2 := R1.prot f1 upd_same
  refine h2 _ _ _ ⟨F.prot q (.dK []), ρ, G, R2, ?_⟩
  have p : Pst c F W σ G ((ops ms ρ).next fun os => bnd (stabs os) fun ds => ret (Opd.val (.dict ((ks.map PyData.str).zip ds)))) (fun o ρ' G' H' => ∀ d p, o = Opd.val d → Fresh c F ρ' σ G' H' p d → Q (.ref p) H') := p
  cases er : ops ms ρ with
  | exc x ρ1 => rw [er] at p; exact fun cls dd G' H' e' R' hx => p cls dd G' H' e' (R'.off f1.b) hx
  | stuck => rw [er] at p; exact p
  | ok os ρ1 =>
    rw [er] at p
    refine fun G1 H1 e1 R3 xs rx hxl => ?_
    have p : Pst c F W σ G (bnd (stabs os) (fun ds => ret (Opd.val (.dict ((ks.map PyData.str).zip ds)))) ρ1) _ := p
    obtain ⟨ds, ra, p2⟩ := stabs_ok rx (Pst.up e1 p)
    have hq1 : H1 q = some (.dK []) := R3.bh q _ upd_same
    have kl : (((ks.map fun z => (Sum.inr z : Key)).zip xs).map (·.1)) = ks.map fun z => (Sum.inr z : Key) := by
      rw [List.map_fst_zip]
      simp [hxl]
    have mg : mergeK [] ((ks.map fun z => (Sum.inr z : Key)).zip xs) = (ks.map fun z => (Sum.inr z : Key)).zip xs := by
      rw [merge_nodup _ _ (fun _ _ _ z => by cases z), List.nil_append]
      rw [kl]
      exact List.Pairwise.map _ (fun a b hab z => hab (Sum.inr.inj z)) hn
    obtain ⟨R4, f4⟩ := R3.unprot (o' := .dK ((ks.map fun z => (Sum.inr z : Key)).zip xs)) (d' := .dict ((ks.map PyData.str).zip ds)) f1.b f1.x f1.n (pair_zip ra) (fun _ z => nomatch z)
    refine ⟨hq1, (ks.map fun z => (Sum.inr z : Key)).zip xs, ?_, ?_, ?_⟩
    · have aux : ∀ (ks : List Str) (xs : List V), (ks.map V.str).zip xs = ((ks.map fun z => (Sum.inr z : Key)).zip xs).map fun kv => (kV kv.1, kv.2) := by
        intro ks
        induction ks with
        | nil => intro xs; rfl
        | cons k ks ih => intro xs; cases xs with
          | nil => rfl
          | cons x xs => simp only [List.map_cons, List.zip_cons_cons, ih xs]; rfl
      exact aux ks xs
    · rw [List.length_zip]; simp; omega
    · rw [mg]
      exact p2 G1 _ (Ex.refl G1) R4 _ q rfl f4
/-! ### d[k], d[k] = x -/
theorem orep_dict {G H : Hp} {x : V} {ps : List (D × D)} (h : ORep c G H x (.dict ps)) (hn : ∀ ds, ps ≠ [(.none, .tuple ds)]) : ∃ a o, x = .ref a ∧ H a = some o ∧ OD c G o (.dict ps) := by
  rcases h with h | ⟨_, a, o, h⟩
  · cases h
    exact absurd rfl (hn _)
  · exact ⟨a, o, h⟩
theorem orep_key {G H : Hp} {x : V} {k : D} (h : ORep c G H x k) (hk : isKey k = true) : ∃ kk : Key, k = keyD kk ∧ x = kV kk := by
  cases k with
  | int i => exact ⟨.inl i, rfl, orep_int h⟩
  | str s => exact ⟨.inr s, rfl, orep_str h⟩
  | _ => cases hk
theorem look_T {kvs : List (List Key × V)} {qs : List (D × D)} {G : Hp} (h : Paired (fun (kv : List Key × V) (p : D × D) => p.1 = .tuple (kv.1.map keyD) ∧ Rep c G kv.2 p.2) kvs qs) (k : Key) : lookD ((.none, .none) :: qs) (keyD k) = none := by
  have e0 : PyData.eqv .none (keyD k) = false := by cases k <;> rfl
  unfold lookD
  rw [List.find?_cons, e0]
  induction h with
  | nil => rfl
  | @cons kv p kvs qs h1 t ih =>
    have e1 : PyData.eqv p.1 (keyD k) = false := by rw [h1.1]; cases k <;> rfl
    rw [List.find?_cons, e1]
    exact ih
theorem e_dix (ha : EE X c W n a ma) (hb : EE X c W n b mb) (hs : NoSl b := by exact fun _ _ => rfl) : EE X c W n (.Subscript a b pos) (e2 dixD ma mb) := fun k =>
  peMono (pe_dget (by have := k.hu; omega) (ha k) (hb k) hs) fun σ H Q ⟨F, ρ, G, R, p⟩ => tE_bind R p fun o ρ1 G1 H1 x e1 R1 r1 p1 => tE_bind R1 p1 fun o2 ρ2 G2 H2 y e2 R2 r2 p2 => by
    obtain ⟨d, q1, p3⟩ := res_ok R2 (r1.mono e2) p2
    obtain ⟨kd, q2, p4⟩ := res_ok R2 r2 p3
    obtain ⟨r, q3, p5⟩ := Pst.lift p4
    unfold dixD at q3
    split at q3
    · rename_i ps
      split at q3
      · rename_i hk
        obtain ⟨kk, rfl, rfl⟩ := orep_key q2 hk
        obtain ⟨a', o', rfl, h1, h2⟩ := orep_dict q1 fun ds e => by
          subst e
          have e0 : PyData.eqv .none (keyD kk) = false := by cases kk <;> rfl
          unfold lookD at q3
          rw [List.find?_cons, e0] at q3
          cases q3
        cases o' with
        | dK kvs =>
          have z := look_pair (show Paired _ kvs ps from h2) kk
          rw [q3] at z
          obtain ⟨v, z1, z2⟩ := z
          exact ⟨a', v, rfl, .inl ⟨kvs, kk, .inl h1, rfl, z1.symm⟩, (resK_of R2 p5).1 v z2⟩
        | dT kvs =>
          obtain ⟨qs, rfl, h3⟩ := (show ∃ qs, ps = (.none, .none) :: qs ∧ Paired _ kvs qs from h2)
          rw [look_T h3 kk] at q3
          cases q3
        | _ => exact (show False from h2).elim
      · cases q3
    · cases q3
def chkDc (i : Nat) : M Unit := fun ρ => match readOwn i ρ with
  | some (.dict _) => .ok () ρ
  | _ => .stuck
/-- x[k] = e of an own dict -/
def setDx (i : Nat) (mi m : M Opd) : S := exe m fun o => exe (stab o) fun d => exe (chkDc i) fun _ => exe mi fun p => exe (res p) fun k => mutO (dputD k d) i
theorem chkDc_fl {F : Fr} {σ : L2.St} {G H : Hp} {ρ : Env} {E : Ends} {i : Nat} {f : Unit → S} (R : Rel c F ρ σ G H) (h : PstS c F md W E G (exe (chkDc i) f ρ)) : ∃ k ps a o, ρ[i]? = some (.own k (.dict ps)) ∧ σ[i]? = some (some (.ref a)) ∧ H a = some o ∧ OD c G o (.dict ps) ∧ PstS c F md W E G (f () ρ) := by
  have h : PstS c F md W E G ((match readOwn i ρ with | some (.dict _) => .ok () ρ | _ => .stuck : Dn.R Unit).fl f) := h
  split at h
  · rename_i ds hr
    obtain ⟨k, hs, ho⟩ := readOwn_some hr
    obtain ⟨a, h1, _, _, _, _, _, o, h2, h3⟩ := R.slot_own hs
    exact ⟨k, ds, a, o, hs, h1, h2, h3, h⟩
  · exact (show False from h).elim
theorem s_dput {i : Nat} {x : Str} {p tp : Pos} {ix : Expr} {mi : M Opd} (he : EE X c W n e m) (hi : EE X c W n ix mi) (hN : X.N[i]? = some x := by rfl) (hv : Vis X.env.scope x := by first | exact Or.inl rfl | exact Or.inr (Or.inl rfl) | exact Or.inr (Or.inr rfl)) (hd : (x == ("__debug__" : Str)) = false := by decide)
    (hcd : (x == ("__classdict__" : Str)) = false := by decide) (hs : swapsWith e (some (.Subscript (.Name x p) ix tp)) pos.line X.env = pure false := by rfl) :
    SS X c W n md (.Assign [.Subscript (.Name x p) ix tp] e pos) (setDx i mi m) := fun k =>
  psMono (ps_dput (by have := k.hu; omega) (pe_var hN hv hd hcd) (hi k) (he k) hs) fun E σ H ⟨F, ρ, G, R, p⟩ => tE_fl R p fun o ρ1 G1 H1 y e1 R1 r1 p1 => by
    obtain ⟨d, q1, _, p2⟩ := stab_fl r1 p1
    obtain ⟨k0, ps, a, o0, w1, w2, w3, w4, p3⟩ := chkDc_fl R1 p2
    refine ⟨_, w2, ?_⟩
    refine tE_fl R1 p3 fun o2 ρ2 G2 H2 z e2 R2 r2 p4 => ?_
    obtain ⟨kd, q2, p5⟩ := res_fl R2 r2 p4
    obtain ⟨k1, d1, d', v1, v2, ⟨o1, v3, v4⟩, v5⟩ := mutO_fl R2 w2 p5
    unfold dputD at v2
    split at v2
    · rename_i ps1
      split at v2
      · rename_i hc
        cases v2
        rw [Bool.and_eq_true, Bool.and_eq_true] at hc
        obtain ⟨⟨hc1, hc2⟩, hc3⟩ := hc
        obtain ⟨kk, rfl, rfl⟩ := orep_key q2 hc1
        cases o1 with
        | dK kvs =>
          have v4 : Paired _ kvs ps1 := v4
          refine ⟨a, _, rfl, DPut.k v3 ?_, v5 _ (put_pair v4 kk (q1.mono e2)) (fun _ z => nomatch z)⟩
          rw [Paired.length v4]
          exact Nat.lt_trans (of_decide_eq_true hc3) (by decide)
        | dT kvs =>
          obtain ⟨qs, rfl, h3⟩ := (show ∃ qs, ps1 = (.none, .none) :: qs ∧ Paired _ kvs qs from v4)
          cases hc2
        | _ => exact (show False from v4).elim
      · cases v2
    · cases v2

/-! ### slices -/
def optM : Option (M Opd) → M (Option Int)
  | none => ret none
  | some m => bnd m fun o => bnd (res o) fun d => bnd (lift (asI d)) fun i => ret (some i)
def slc (lo hi : Option (M Opd)) (m : M Opd) : M Opd := bnd m fun o => bnd (optM lo) fun l => bnd (optM hi) fun h => bnd (res o) fun d => bnd (lift (sliceD l h d)) fun r => ret (.val r)
def EO (X : Cx) (c : Kc) (W : WX) (n : Nat) (e : Option Expr) (m : Option (M Opd)) : Prop := Ctx X c W n → ∃ t, PO X e t ∧ ∀ σ H Q, (∃ F ρ G, Rel c F ρ σ G H ∧ Pst c F W σ G (optM m ρ) fun i _ _ H' => Q i H') → t σ H Q
theorem o_none : EO X c W n none none := fun _ => ⟨_, po_none, fun σ H Q ⟨F, ρ, G, R, p⟩ => Pst.use p R⟩
theorem o_some (h : EE X c W n e m) : EO X c W n (some e) (some m) := fun k => ⟨_, po_some (h k), fun σ H Q ⟨F, ρ, G, R, p⟩ => tE_bind R p fun o ρ1 G1 H1 x e1 R1 r1 p1 => by
  obtain ⟨d, q1, p2⟩ := res_ok R1 r1 p1
  obtain ⟨i, q2, p3⟩ := Pst.lift p2
  cases d with
  | int j =>
    cases q2
    exact ⟨_, orep_int q1, Pst.use p3 R1⟩
  | _ => cases q2⟩
theorem cut_ok {α : Type} (xs : List α) (lo hi : Option Int) : cut xs lo hi = (xs.drop (HT.sIx xs.length 0 lo)).take (HT.sIx xs.length xs.length hi - HT.sIx xs.length 0 lo) := rfl
theorem e_slc {lo hi : Option Expr} {ml mh : Option (M Opd)} {p2 : Pos} (he : EE X c W n e m) (hl : EO X c W n lo ml) (hh : EO X c W n hi mh) : EE X c W n (.Subscript e (.Slice lo hi none p2) pos) (slc ml mh m) := fun k => by
  obtain ⟨tl, l1, l2⟩ := hl k
  obtain ⟨th, h1, h2⟩ := hh k
  refine peMono (pe_slice ((sl_list (X := X)).or ((sl_tupA (X := X)).or C8.sl_txt)) (he k) l1 h1) fun σ H Q ⟨F, ρ, G, R, p⟩ => tE_bind R p fun o ρ1 G1 H1 x e1 R1 r1 p1 => ?_
  refine l2 _ _ _ ⟨F, ρ1, G1, R1, Pst.bind p1 fun lv ρ2 G2 H2 e2 R2 p2 => ?_⟩
  refine h2 _ _ _ ⟨F, ρ2, G2, R2, Pst.bind p2 fun hv ρ3 G3 H3 e3 R3 p3 => ?_⟩
  obtain ⟨d, q1, p4⟩ := res_ok R3 (r1.mono (e2.trans e3)) p3
  obtain ⟨r, q2, p5⟩ := Pst.lift p4
  have hr := resK_of R3 p5
  unfold sliceD at q2
  split at q2
  · rename_i xs
    cases q2
    obtain ⟨a, vs, rfl, w1, w2⟩ := orep_lst k.hK R3.gh q1
    refine .inl ⟨a, vs, rfl, w1, resL hr ?_⟩
    rw [cut_ok]
    show RepA c G3 (cutV vs lv hv) _
    unfold cutV
    rw [w2.length]
    exact (w2.drop _).take _
  · rename_i xs
    cases q2
    obtain ⟨a, vs, rfl, w1, w2⟩ := orep_tup k.hK R3.gh q1
    refine .inr (.inl ⟨a, vs, rfl, w1, fun hw => ?_, fun _ => resT hr ?_⟩)
    · have e : cut xs lv hv = xs := by
        rw [cut_ok, ← w2.length, hw.1, hw.2, w2.length]
        simp
      rw [e] at hr
      rcases q1 with q1 | ⟨z, _⟩
      · exact hr.1 _ q1
      · cases z
    · rw [cut_ok]
      show RepA c G3 (cutV vs lv hv) _
      unfold cutV
      rw [w2.length]
      exact (w2.drop _).take _
  · split at q2
    · rename_i z hz
      cases q2
      have ez : (⟨(cut z.cps.toList lv hv).toArray⟩ : Str) = Txt.slice z lv hv := by rw [← C8.cutS_slice]; rfl
      rw [ez] at hr
      refine .inr (.inr ⟨z, orep_str q1, zlen hz, hr.1 _ (.str _)⟩)
    · cases q2
  · cases q2
/-! ### two at once -/
def setP (i j : Nat) (m n : M Opd) : S := exe (ops [m, n]) fun os => match os with
  | [o1, o2] => exe (stab o1) fun d => exe (stab o2) fun e => fun ρ => .next ((ρ.set i (.val d)).set j (.val e))
  | _ => fun _ => .stuck
theorem s_setP {i j : Nat} {x y : Str} {px py pt pos' : Pos} {kt k2 : Nat} (ha : EA X c W n [a, b] (ops [ma, mb])) (hi : X.N[i]? = some x := by rfl) (hj : X.N[j]? = some y := by rfl) (hij : i ≠ j := by decide) (hx : X.env.scope.names.lookup x = some .local := by rfl) (hy : X.env.scope.names.lookup y = some .local := by rfl)
    (hw : swappedStores [.Tuple [.Name x px, .Name y py] kt pt] (.Tuple [a, b] k2 pos') X.env = pure (some [x, y]) := by rfl) (hs : swapsWithSole [.Tuple [.Name x px, .Name y py] kt pt] (.Tuple [a, b] k2 pos') pos.line X.env = pure false := by rfl) :
    SS X c W n md (.Assign [.Tuple [.Name x px, .Name y py] kt pt] (.Tuple [a, b] k2 pos') pos) (setP i j ma mb) := fun k =>
  psMono (ps_par k.calm k.nd hi hj hij hx hy (ha k) hw hs) fun E σ H ⟨F, ρ, G, R, p⟩ => by
    refine ⟨F, ρ, G, R, Pst.flE p fun os ρ1 G1 H1 e1 R1 p1 xs rx => ?_⟩
    cases rx with
    | nil => exact (show False from p1).elim
    | cons r1 rx => cases rx with
      | nil => exact (show False from p1).elim
      | cons r2 rx => cases rx with
        | cons _ _ => exact (show False from p1).elim
        | nil =>
          obtain ⟨d, q1, _, p2⟩ := stab_fl r1 p1
          obtain ⟨d2, q2, _, p3⟩ := stab_fl r2 p2
          exact ⟨_, _, rfl, p3 _ G1 H1 (Ex.refl G1) ((R1.setv q1).setv q2)⟩

/-! ### x is True -/
def isBD : D → D → Option D
  | .bool x, .bool y => some (.bool (decide (x = y)))
  | _, _ => none
def notBD : D → D → Option D
  | .bool x, .bool y => some (.bool (!decide (x = y)))
  | _, _ => none
theorem op_isBD : OpR X (compareOp .Is) (rD2 c isBD) := by
  intro pins s σ H x y u u2 Q I rx ry h
  obtain ⟨G, d, e, r, ex, hd, he, hg, hr⟩ := h
  unfold isBD at hg
  split at hg
  · cases hg
    rw [orep_bl hd] at rx
    rw [orep_bl he] at ry
    exact op_isBl pins s σ H _ _ u u2 Q I rx ry ⟨_, _, rfl, rfl, resB hr⟩
  · cases hg
theorem op_notBD : OpR X (compareOp .IsNot) (rD2 c notBD) := by
  intro pins s σ H x y u u2 Q I rx ry h
  obtain ⟨G, d, e, r, ex, hd, he, hg, hr⟩ := h
  unfold notBD at hg
  split at hg
  · cases hg
    rw [orep_bl hd] at rx
    rw [orep_bl he] at ry
    exact op_notBl pins s σ H _ _ u u2 Q I rx ry ⟨_, _, rfl, rfl, resB hr⟩
  · cases hg

/-! ### a call whose first argument is a new object -/
/-- the object stands in a slot of its own, behind the frame, as long as the call lasts -/
def dropL (k : Nat) (r : R Opd) : R Opd := match r with
  | .ok o ρ => .ok o (ρ.take k)
  | .exc x ρ => .exc x (ρ.take k)
  | .stuck => .stuck
def callT (f : FD) (ks : List Bool) (md : Bool) (m : M Opd) (ms : List (M Opd)) : M Opd := bnd m fun o => match o with
  | .val d => bnd (ops ms) fun os => fun ρ => dropL ρ.length (callO f ks md (.bor ρ.length :: os) (ρ ++ [.own true d]))
  | .bor _ => fun _ => .stuck
end
section
variable {c : Kc} {F : Fr} {ρ : Env} {σ : L2.St} {G H : Hp} {q : Addr} {d : D}
/-- a frame with one slot more -/
theorem Rel.longer (R : Rel c F ρ σ G H) (f : Fresh c F ρ σ G H q d) : Rel c F (ρ ++ [.own true d]) (σ ++ [some (.ref q)]) G H := by
  have hl : ρ.length = σ.length := R.len
  have at1 : ∀ (i : Nat) (s : Slot), (ρ ++ [.own true d])[i]? = some s → (ρ[i]? = some s ∧ (σ ++ [some (V.ref q)])[i]? = σ[i]?) ∨ (i = ρ.length ∧ s = .own true d ∧ (σ ++ [some (V.ref q)])[i]? = some (some (.ref q))) := fun i s z => by
    by_cases hi : i < ρ.length
    · rw [List.getElem?_append_left hi] at z
      exact .inl ⟨z, List.getElem?_append_left (by omega)⟩
    · rw [List.getElem?_append_right (by omega)] at z
      have e : i = ρ.length := by
        have := (List.getElem?_eq_some_iff.mp z).1
        simp at this
        omega
      subst e
      rw [Nat.sub_self] at z
      refine .inr ⟨rfl, (Option.some.inj z).symm, ?_⟩
      rw [hl, List.getElem?_append_right (Nat.le_refl _), Nat.sub_self]
      rfl
  refine ⟨by simp [hl], R.gh, R.bh, R.xg, R.xh, R.nh, fun i s z => ?_, fun i j k l d0 e0 a hne z1 z2 y1 y2 => ?_, R.tk⟩
  · rcases at1 i s z with ⟨h1, h2⟩ | ⟨h1, h2, h3⟩
    · obtain ⟨u, e, y⟩ := R.sl i s h1
      exact ⟨u, h2.trans e, y⟩
    · subst h2
      exact ⟨_, h3, f.g, f.b, f.x, fun _ => f.n, (fun z => nomatch z), f.o⟩
  · rcases at1 i _ z1 with ⟨h1, h2⟩ | ⟨h1, h2, h3⟩
    · rcases at1 j _ z2 with ⟨k1, k2⟩ | ⟨k1, k2, k3⟩
      · exact R.dj i j k l d0 e0 a hne h1 k1 (h2 ▸ y1) (k2 ▸ y2)
      · rw [k3] at y2
        cases y2
        exact f.sl i k d0 h1 (h2 ▸ y1)
    · rcases at1 j _ z2 with ⟨k1, k2⟩ | ⟨k1, k2, k3⟩
      · rw [h3] at y1
        cases y1
        exact f.sl j l e0 k1 (k2 ▸ y2)
      · exact hne (h1.trans k1.symm)
theorem Rel.shorter {ρ' : Env} (R : Rel c F ρ' (σ ++ [some (.ref q)]) G H) (hl : ρ'.length = σ.length + 1) : Rel c F (ρ'.take σ.length) σ G H := by
  refine R.less (by rw [List.length_take]; omega) fun i s z => ?_
  have hi : i < σ.length := by
    have := (List.getElem?_eq_some_iff.mp z).1
    rw [List.length_take] at this
    omega
  rw [List.getElem?_take_of_lt hi] at z
  exact .inr ⟨z, (List.getElem?_append_left hi).symm⟩
end
section
variable {X : Cx} {c : Kc} {W : WX} {n : Nat} {md : Bool} {e a b : Expr} {m ma mb mc : M Opd} {pos : Pos}
theorem Rets.longer {σ τ : L2.St} {G : Hp} : ∀ {xs : List V} {os : List Opd}, Rets c σ G xs os → Rets c (σ ++ τ) G xs os
  | _, _, .nil => .nil
  | _, _, .cons (o := o) h t => .cons (by
      cases o with
      | val d => exact h
      | bor i =>
        have h : σ[i]? = some (some _) := h
        show (σ ++ τ)[i]? = _
        rw [List.getElem?_append_left (List.getElem?_eq_some_iff.mp h).1, h]) t.longer
theorem callT_split {F : Fr} {ρ : Env} {σ : L2.St} {G H : Hp} {f : FD} {ks : List Bool} {md : Bool} {ms : List (M Opd)} {K : Opd → Env → Hp → Hp → Prop} {Q : VK} (R : Rel c F ρ σ G H) (p : Pst c F W σ G (callT f ks md m ms ρ) K)
    (hQ : ∀ d ρ' x G' H', Ex G G' → Rel c F ρ' σ G' H' → (md = false → Rep c G' x d) → (md = true → ∃ q, x = .ref q ∧ Fresh c F ρ' σ G' H' q d) → K (.val d) ρ' G' H' → Q x H') :
    tN c W m σ H fun x H1 => tA c W (ops ms) σ H1 fun xs H2 => spF c f ks md (x :: xs) H2 Q (WE W σ) := by
  refine ⟨F, ρ, G, R, Pst.bind p fun o ρ1 G1 H1 e1 R1 p1 d q ed fr => ?_⟩
  subst ed
  obtain ⟨o0, ho, od⟩ := fr.o
  refine ⟨F.prot q o0, ρ1, G1, R1.prot fr ho, ?_⟩
  have p1 : Pst c F W σ G1 ((ops ms ρ1).next fun os => fun ρ => dropL ρ.length (callO f ks md (.bor ρ.length :: os) (ρ ++ [.own true d]))) K := p1
  cases er : ops ms ρ1 with
  | exc x ρ2 => rw [er] at p1; exact fun cls dd G' H' e' R' hx => p1 cls dd G' H' e' (R'.off fr.b) hx
  | stuck => rw [er] at p1; exact p1
  | ok os ρ2 =>
    rw [er] at p1
    refine fun G2 H2 e2 R2 xs rx => ?_
    have p1 : Pst c F W σ G1 (dropL ρ2.length (callO f ks md (.bor ρ2.length :: os) (ρ2 ++ [.own true d]))) K := p1
    have hq2 : H2 q = some o0 := R2.bh q _ upd_same
    obtain ⟨R3, f3⟩ := R2.unprot (o' := o0) (d' := d) fr.b fr.x fr.n (od.mono e2) (fun ks z => by
      have g1 := R2.tk q ks (by rw [hq2, z])
      rw [R2.xg q (.inr rfl)] at g1
      cases g1)
    rw [upd_id hq2] at R3 f3
    have len : ρ2.length = σ.length := R3.len
    have hd : (σ ++ [some (V.ref q)])[ρ2.length]? = some (some (.ref q)) := by
      rw [len, List.getElem?_append_right (Nat.le_refl _), Nat.sub_self]
      rfl
    refine call_core (R3.longer f3) (xs := .ref q :: xs) (os := .bor ρ2.length :: os) (.cons hd rx.longer) (fun z => by rw [z] at p1; exact p1) (fun d' ρ' x G' H' hc ex R' h1 h2 => ?_) (fun x ρ' cls dd G' H' hc ex R' hx => ?_)
    · rw [hc] at p1
      have hl : ρ'.length = σ.length + 1 := by have := R'.len; simpa using this
      have R5 := R'.shorter hl
      rw [← len] at R5
      refine hQ d' (ρ'.take ρ2.length) x G' H' (e1.trans (e2.trans ex)) R5 h1 (fun z => ?_) (p1 G' H' (e2.trans ex) R5)
      obtain ⟨p0, rfl, fq⟩ := h2 z
      refine ⟨p0, rfl, fq.g, fq.b, fq.x, fq.n, fq.o, fun i k e0 hz hs => ?_⟩
      have hi : i < ρ2.length := by
        have := (List.getElem?_eq_some_iff.mp hz).1
        rw [List.length_take] at this
        omega
      rw [List.getElem?_take_of_lt hi] at hz
      exact fq.sl i k e0 hz (by rw [List.getElem?_append_left (by omega)]; exact hs)
    · rw [hc] at p1
      have hl : ρ'.length = σ.length + 1 := by have := R'.len; simpa using this
      have R5 := R'.shorter hl
      rw [← len] at R5
      exact p1 cls dd G' H' (e2.trans ex) R5 hx
theorem e_callT {x : Str} {p : Pos} {es : List Expr} {ms : List (M Opd)} {f : FD} {ks : List Bool} {j : Nat} (hd : DefOk X.prog X.w X.K X.mg X.base c x f ks false j) (hj : j ≤ n) (ha : EN X c W n a m) (hes : EA X c W n es (ops ms)) (hg : Gl X x := by rfl) (hdb : (x == ("__debug__" : Str)) = false := by decide)
    (he : starEach (a :: es) X.env = (false, eval a X.env) :: starEach es X.env := by rfl) (hpl : (backTo pos (starEach es X.env)).any (·.1) = false := by rfl) : EE X c W n (.Call (.Name x p) (a :: es) [] pos) (callT f ks false m ms) := fun k => by
  obtain ⟨fa, fd, ps, hF, hm, hk, hb⟩ := hd.ex
  refine peMono (pe_callS hF (k.room.mono hj) hg hm hk hb (fun σ => passAt k.tk σ) (pa_cons (ha k) (hes k) he) hdb he hpl) fun σ H Q ⟨F, ρ, G, R, p⟩ => ?_
  exact callT_split R p fun d ρ' x G' H' e1 R' h1 h2 hK => hK x (h1 rfl)
theorem n_callT {x : Str} {p : Pos} {es : List Expr} {ms : List (M Opd)} {f : FD} {ks : List Bool} {j : Nat} (hd : DefOk X.prog X.w X.K X.mg X.base c x f ks true j) (hj : j ≤ n) (ha : EN X c W n a m) (hes : EA X c W n es (ops ms)) (hg : Gl X x := by rfl) (hdb : (x == ("__debug__" : Str)) = false := by decide)
    (he : starEach (a :: es) X.env = (false, eval a X.env) :: starEach es X.env := by rfl) (hpl : (backTo pos (starEach es X.env)).any (·.1) = false := by rfl) : EN X c W n (.Call (.Name x p) (a :: es) [] pos) (callT f ks true m ms) := fun k => by
  obtain ⟨fa, fd, ps, hF, hm, hk, hb⟩ := hd.ex
  refine peMono (pe_callS hF (k.room.mono hj) hg hm hk hb (fun σ => passAt k.tk σ) (pa_cons (ha k) (hes k) he) hdb he hpl) fun σ H Q ⟨F, ρ, G, R, p⟩ => ?_
  refine callT_split R p fun d ρ' x G' H' e1 R' h1 h2 hK => ?_
  obtain ⟨q, rfl, fr⟩ := h2 rfl
  exact hK d q rfl fr
/-! ### an own list that is changed no more -/
def bv (i : Nat) : M Opd := fun ρ => match ρ[i]? with
  | some (.val d) => .ok (.val d) ρ
  | some (.own true d) => if isSeq d then .ok (.val d) (ρ.set i (.val d)) else .stuck
  | _ => .stuck
theorem e_bv (i : Nat) {x : Str} (hN : X.N[i]? = some x := by rfl) (hv : Vis X.env.scope x := by first | exact Or.inl rfl | exact Or.inr (Or.inl rfl) | exact Or.inr (Or.inr rfl)) (hd : (x == ("__debug__" : Str)) = false := by decide)
    (hcd : (x == ("__classdict__" : Str)) = false := by decide) : EE X c W n (.Name x pos) (bv i) := fun _ => peMono (pe_var hN hv hd hcd) fun σ H Q ⟨F, ρ, G, R, p⟩ => by
  unfold bv at p
  split at p
  · rename_i d hs
    obtain ⟨x, h1, h2⟩ := R.slot_val hs
    exact ⟨x, h1, Pst.use p R x h2⟩
  · rename_i d hs
    split at p
    · rename_i hl
      cases d with
      | list ds =>
        obtain ⟨a, G', h1, ex, R', rp⟩ := R.frz hs
        exact ⟨_, h1, p G' H ex R' _ rp⟩
      | _ => cases hl
    · exact (show False from p).elim
  · exact (show False from p).elim
end
end Dn


set_option maxHeartbeats 1000000
/-! DnM: zip of a tuple and a list. The walk of the machine is the kit's for two tuples, its second iterator turned to a list's. -/
namespace Dn
open PySem PySem.Spec L2 PyProof.Rows RZ
open PySem.Sem (wp)
section
variable {prog : Program} {w : World} {A : Around} {E : Value → Shared → Prop} {s : Shared}
theorem zipM_next_item {z TI TO i1 i2 l1 l2 : Addr} {k1 k2 : Nat} {xs ys : Array Value} {x y a b : Value} {Q : Value → Shared → Prop} (D : ZipApart z TI TO i1 i2 l1 l2)
    (hz : IsZip s.heap z TI TO .none) (hTI : IsPair s.heap TI (.ref i1) (.ref i2)) (hTO : IsPair s.heap TO a b)
    (h1 : s.heap.IsTupleIter i1 l1 k1) (h2 : s.heap.IsListIter i2 l2 k2) (hl1 : s.heap.IsTuple l1 xs) (hl2 : s.heap.IsList l2 ys) (hx : xs[k1]? = some x) (hy : ys[k2]? = some y)
    (hQ : ∀ h', IsZip h' z TI TO (rawInt s.heap.objs.size) → IsPair h' TO x y → h'.IsTupleIter i1 l1 (k1 + 1) → h'.IsListIter i2 l2 (k2 + 1) → IsPair h' s.heap.objs.size x y → h'.objs.size = s.heap.objs.size + 1 →
      (∀ c o, c ≠ z → c ≠ TO → c ≠ i1 → c ≠ i2 → s.heap.get? c = some o → h'.get? c = some o) → Q (.ref s.heap.objs.size) { s with heap := h' }) :
    wpAny (model prog w) A (Builtin.«zip.__next__» ⟨[.ref z], []⟩) (fun fin s' => ∃ v, fin = .done (.ret v) ∧ Q v s') E s := by
  show wpAny _ _ (field (.ref z) 2 >>= _) _ _ _
  refine wpAny_bind (wpAny_field hz rfl (x := .bool false) rfl ?_)
  show wpAny _ _ (field (.ref z) 3 >>= _) _ _ _
  refine wpAny_bind (wpAny_field hz rfl (x := .ref TI) rfl ?_)
  refine wpAny_bind (wpAny_seqItems hTI rfl ?_)
  show wpAny _ _ (Builtin.SmallTypes.ownedTupleIsFree (.ref z) >>= _) _ _ _
  refine wpAny_bind ?_
  unfold Builtin.SmallTypes.ownedTupleIsFree
  refine wpAny_bind (wpAny_field hz rfl (x := .none) rfl (wpAny_pure ?_))
  simp only [if_true]
  refine wpAny_bind (wpAny_rule ?_)
  refine wpAny_bind (wpAny_field hz rfl (x := .ref TO) rfl ?_)
  refine wpAny_bind (wpAny_setField_rec hz (by simp) fun h₁ hz₁ hs₁ => ?_)
  replace hz₁ : IsZip h₁ z TI TO .ellipsis := hz₁
  refine wpAny_bind ?_
  simp only [List.zipIdx_cons, List.zipIdx_nil, List.forIn_cons, List.forIn_nil]

  refine wpAny_bind (wpAny_bind (wpAny_onRaise ?_))
  show wpAny _ _ (Builtin.SmallTypes.nextOf (.ref i1) >>= _) _ _ _
  refine wpAny_bind (nextOf_tuple_item (h1.extBut hs₁.extBut D.i1z) (hl1.extBut hs₁.extBut D.l1z) hx fun h₂ h1₂ hs₂ => wpAny_pure ?_)
  have hTO₂ : IsPair h₂ TO a b := hs₂.extBut _ _ D.TOi1 (hs₁.extBut _ _ D.TOz hTO)
  refine wpAny_bind (wpAny_seqItems hTO₂ rfl ?_)
  refine wpAny_bind (wpAny_updateSeq_pair hTO₂ fun h₃ hTO₃ hs₃ => ?_)
  replace hTO₃ : IsPair h₃ TO x b := hTO₃
  refine wpAny_bind (wpAny_letGo (wpAny_pure ?_))

  refine wpAny_bind (wpAny_bind (wpAny_onRaise ?_))
  show wpAny _ _ (Builtin.SmallTypes.nextOf (.ref i2) >>= _) _ _ _
  refine wpAny_bind (wpAny_nextOf_list_item (((h2.extBut hs₁.extBut D.i2z).extBut hs₂.extBut D.i12.symm).extBut hs₃.extBut D.TOi2.symm)
    (((hl2.extBut hs₁.extBut D.l2z).extBut hs₂.extBut D.l2i1).extBut hs₃.extBut D.l2TO) hy fun h₄ h2₄ hs₄ => wpAny_pure ?_)
  have hTO₄ : IsPair h₄ TO x b := hs₄.extBut _ _ D.TOi2 hTO₃
  refine wpAny_bind (wpAny_seqItems hTO₄ rfl ?_)
  refine wpAny_bind (wpAny_updateSeq_pair hTO₄ fun h₅ hTO₅ hs₅ => ?_)
  replace hTO₅ : IsPair h₅ TO x y := hTO₅
  refine wpAny_bind (wpAny_letGo (wpAny_pure (wpAny_pure ?_)))

  refine wpAny_bind (wpAny_seqItems hTO₅ rfl ?_)
  refine wpAny_bind (wpAny_newTuple ?_)
  have hsz : h₅.objs.size = s.heap.objs.size := by rw [hs₅.1, hs₄.1, hs₃.1, hs₂.1, hs₁.1]
  have hz₅ : IsZip h₅ z TI TO .ellipsis := hs₅.extBut _ _ D.TOz.symm (hs₄.extBut _ _ D.i2z.symm (hs₃.extBut _ _ D.TOz.symm (hs₂.extBut _ _ D.i1z.symm hz₁)))
  have hk₅ : ∀ c o, c ≠ z → c ≠ TO → c ≠ i1 → c ≠ i2 → s.heap.get? c = some o → h₅.get? c = some o := fun c o c1 c2 c3 c4 e =>
    hs₅.extBut _ _ c2 (hs₄.extBut _ _ c4 (hs₃.extBut _ _ c2 (hs₂.extBut _ _ c3 (hs₁.extBut _ _ c1 e))))
  have h1₅ : h₅.IsTupleIter i1 l1 (k1 + 1) := ((h1₂.extBut hs₃.extBut D.TOi1.symm).extBut hs₄.extBut D.i12).extBut hs₅.extBut D.TOi1.symm
  have h2₅ : h₅.IsListIter i2 l2 (k2 + 1) := h2₄.extBut hs₅.extBut D.TOi2.symm
  have hzlt : z < h₅.objs.size := Heap.lt_size hz₅
  have hTOlt : TO < h₅.objs.size := Heap.lt_size hTO₅
  have hi1lt : i1 < h₅.objs.size := by obtain ⟨_, e, _⟩ := h1₅; exact Heap.lt_size e
  have hi2lt : i2 < h₅.objs.size := by obtain ⟨_, e, _⟩ := h2₅; exact Heap.lt_size e
  show wpAny _ _ (Builtin.SmallTypes.ownedTupleHandOut (.ref z) (.ref h₅.objs.size) >>= _) _ _ _
  refine wpAny_bind ?_
  unfold Builtin.SmallTypes.ownedTupleHandOut
  have hz₆ : IsZip (h₅.push { cls := .type "tuple", data := .seq #[x, y] }) z TI TO .ellipsis := Heap.get?_push_of_some _ hz₅
  refine wpAny_bind (wpAny_setField_rec hz₆ (by simp) fun h₇ hz₇ hs₇ => ?_)
  replace hz₇ : IsZip h₇ z TI TO (rawInt h₅.objs.size) := hz₇
  refine wpAny_setField_rec hz₇ (by simp) fun h₈ hz₈ hs₈ => ?_
  replace hz₈ : IsZip h₈ z TI TO (rawInt h₅.objs.size) := hz₈
  have up : ∀ c o, c ≠ z → h₅.get? c = some o → h₈.get? c = some o := fun c o c1 e => hs₈.extBut _ _ c1 (hs₇.extBut _ _ c1 (Heap.get?_push_of_some _ e))
  have hT₈ : IsPair h₈ h₅.objs.size x y := hs₈.extBut _ _ (Nat.ne_of_gt hzlt) (hs₇.extBut _ _ (Nat.ne_of_gt hzlt) (Heap.get?_push_size _ rfl))
  have hz8 : h₈.objs.size = h₅.objs.size + 1 := by rw [hs₈.1, hs₇.1, Heap.size_push]
  rw [hsz] at hz₈ hT₈ hz8
  refine wpAny_pure ⟨_, rfl, ?_⟩
  show Q (.ref h₅.objs.size) _
  rw [hsz]
  exact hQ h₈ hz₈ (up _ _ D.TOz hTO₅) (h1₅.at fun o e => up _ o D.i1z e) (h2₅.at fun o e => up _ o D.i2z e) hT₈ hz8 fun c o c1 c2 c3 c4 e => up c o c1 (hk₅ c o c1 c2 c3 c4 e)

theorem zipM_next_end {z TI TO i1 i2 l1 l2 : Addr} {k1 k2 : Nat} {xs ys : Array Value} {a b : Value} {Q : Fin → Shared → Prop} (hh : A.handled = none) (D : ZipApart z TI TO i1 i2 l1 l2)
    (hz : IsZip s.heap z TI TO .none) (hTI : IsPair s.heap TI (.ref i1) (.ref i2)) (hTO : IsPair s.heap TO a b)
    (h1 : s.heap.IsTupleIter i1 l1 k1) (h2 : s.heap.IsListIter i2 l2 k2) (hl1 : s.heap.IsTuple l1 xs) (hl2 : s.heap.IsList l2 ys) (hend : xs[k1]? = none ∨ ys[k2]? = none)
    (hE : ∀ h' e, (∀ c o, c ≠ z → c ≠ TO → c ≠ i1 → c ≠ i2 → s.heap.get? c = some o → h'.get? c = some o) → (∃ o, h'.get? e = some o ∧ o.cls = .type "StopIteration") → E (.ref e) { s with heap := h' }) :
    wpAny (model prog w) A (Builtin.«zip.__next__» ⟨[.ref z], []⟩) Q E s := by
  show wpAny _ _ (field (.ref z) 2 >>= _) _ _ _
  refine wpAny_bind (wpAny_field hz rfl (x := .bool false) rfl ?_)
  show wpAny _ _ (field (.ref z) 3 >>= _) _ _ _
  refine wpAny_bind (wpAny_field hz rfl (x := .ref TI) rfl ?_)
  refine wpAny_bind (wpAny_seqItems hTI rfl ?_)
  show wpAny _ _ (Builtin.SmallTypes.ownedTupleIsFree (.ref z) >>= _) _ _ _
  refine wpAny_bind ?_
  unfold Builtin.SmallTypes.ownedTupleIsFree
  refine wpAny_bind (wpAny_field hz rfl (x := .none) rfl (wpAny_pure ?_))
  simp only [if_true]
  refine wpAny_bind (wpAny_rule ?_)
  refine wpAny_bind (wpAny_field hz rfl (x := .ref TO) rfl ?_)
  refine wpAny_bind (wpAny_setField_rec hz (by simp) fun h₁ hz₁ hs₁ => ?_)
  replace hz₁ : IsZip h₁ z TI TO .ellipsis := hz₁
  refine wpAny_bind ?_
  simp only [List.zipIdx_cons, List.zipIdx_nil, List.forIn_cons, List.forIn_nil]
  refine wpAny_bind (wpAny_bind (wpAny_onRaise ?_))
  show wpAny _ _ (Builtin.SmallTypes.nextOf (.ref i1) >>= _) _ _ _
  cases hx : xs[k1]? with
  | none =>
    refine wpAny_bind (nextOf_tuple_end hh (h1.extBut hs₁.extBut D.i1z) (hl1.extBut hs₁.extBut D.l1z) hx fun h₂ e hs₂ he => ?_)
    obtain ⟨oe, hoe, hce⟩ := he
    have hz₂ : IsZip h₂ z TI TO .ellipsis := hs₂ _ _ D.i1z.symm hz₁
    have hez : e ≠ z := fun x => by subst x; rw [hz₂] at hoe; cases hoe; simp at hce
    refine wpAny_setField_rec hz₂ (by simp) fun h₃ _ hs₃ => hE h₃ e (fun c o c1 _ c3 _ x => hs₃.extBut _ _ c1 (hs₂ _ _ c3 (hs₁.extBut _ _ c1 x))) ⟨oe, hs₃.extBut _ _ hez hoe, hce⟩
  | some x =>
    have hy : ys[k2]? = none := by rcases hend with h | h; rw [hx] at h; cases h; exact h
    refine wpAny_bind (nextOf_tuple_item (h1.extBut hs₁.extBut D.i1z) (hl1.extBut hs₁.extBut D.l1z) hx fun h₂ h1₂ hs₂ => wpAny_pure ?_)
    have hTO₂ : IsPair h₂ TO a b := hs₂.extBut _ _ D.TOi1 (hs₁.extBut _ _ D.TOz hTO)
    refine wpAny_bind (wpAny_seqItems hTO₂ rfl ?_)
    refine wpAny_bind (wpAny_updateSeq_pair hTO₂ fun h₃ hTO₃ hs₃ => ?_)
    refine wpAny_bind (wpAny_letGo (wpAny_pure ?_))
    refine wpAny_bind (wpAny_bind (wpAny_onRaise ?_))
    show wpAny _ _ (Builtin.SmallTypes.nextOf (.ref i2) >>= _) _ _ _
    refine wpAny_bind (wpAny_nextOf_list_end hh (((h2.extBut hs₁.extBut D.i2z).extBut hs₂.extBut D.i12.symm).extBut hs₃.extBut D.TOi2.symm)
      (((hl2.extBut hs₁.extBut D.l2z).extBut hs₂.extBut D.l2i1).extBut hs₃.extBut D.l2TO) hy fun h₄ e hs₄ he => ?_)
    obtain ⟨oe, hoe, hce⟩ := he
    have hz₄ : IsZip h₄ z TI TO .ellipsis := hs₄ _ _ D.i2z.symm (hs₃.extBut _ _ D.TOz.symm (hs₂.extBut _ _ D.i1z.symm hz₁))
    have hez : e ≠ z := fun x => by subst x; rw [hz₄] at hoe; cases hoe; simp at hce
    refine wpAny_setField_rec hz₄ (by simp) fun h₅ _ hs₅ => hE h₅ e (fun c o c1 c2 c3 c4 x => hs₅.extBut _ _ c1 (hs₄ _ _ c4 (hs₃.extBut _ _ c2 (hs₂.extBut _ _ c3 (hs₁.extBut _ _ c1 x))))) ⟨oe, hs₅.extBut _ _ hez hoe, hce⟩

theorem pyNext_zipM_item {z TI TO i1 i2 l1 l2 : Addr} {k1 k2 : Nat} {xs ys : Array Value} {x y a b : Value} {Q : Option Value → Shared → Prop} (D : ZipApart z TI TO i1 i2 l1 l2)
    (hz : IsZip s.heap z TI TO .none) (hTI : IsPair s.heap TI (.ref i1) (.ref i2)) (hTO : IsPair s.heap TO a b)
    (h1 : s.heap.IsTupleIter i1 l1 k1) (h2 : s.heap.IsListIter i2 l2 k2) (hl1 : s.heap.IsTuple l1 xs) (hl2 : s.heap.IsList l2 ys) (hx : xs[k1]? = some x) (hy : ys[k2]? = some y)
    (hQ : ∀ h', IsZip h' z TI TO (rawInt s.heap.objs.size) → IsPair h' TO x y → h'.IsTupleIter i1 l1 (k1 + 1) → h'.IsListIter i2 l2 (k2 + 1) → IsPair h' s.heap.objs.size x y → h'.objs.size = s.heap.objs.size + 1 →
      (∀ c o, c ≠ z → c ≠ TO → c ≠ i1 → c ≠ i2 → s.heap.get? c = some o → h'.get? c = some o) → Q (some (.ref s.heap.objs.size)) { s with heap := h' }) :
    wpAny (model prog w) A (pyNext (.ref z)) Q E s := by
  have hT : s.TypeIs (.ref z) "zip" := ⟨_, hz, rfl⟩
  unfold pyNext
  exact wpAny_bind (wpAny_attempt (wpAny_callSpecial?_slot (name := Str.ofString "__next__") hT F.slot_zip_next
    (wpAny_call_entry F.slot_zip_next hT F.entry_zip_next
      (zipM_next_item D hz hTI hTO h1 h2 hl1 hl2 hx hy fun h' a1 a2 a3 a4 a5 a6 a7 => wpAny_pure (hQ h' a1 a2 a3 a4 a5 a6 a7)) (F.args_zip_next_1 _))))

theorem pyNext_zipM_end {z TI TO i1 i2 l1 l2 : Addr} {k1 k2 : Nat} {xs ys : Array Value} {a b : Value} {Q : Option Value → Shared → Prop} (hh : A.handled = none) (D : ZipApart z TI TO i1 i2 l1 l2)
    (hz : IsZip s.heap z TI TO .none) (hTI : IsPair s.heap TI (.ref i1) (.ref i2)) (hTO : IsPair s.heap TO a b)
    (h1 : s.heap.IsTupleIter i1 l1 k1) (h2 : s.heap.IsListIter i2 l2 k2) (hl1 : s.heap.IsTuple l1 xs) (hl2 : s.heap.IsList l2 ys) (hend : xs[k1]? = none ∨ ys[k2]? = none)
    (hQ : ∀ h', (∀ c o, c ≠ z → c ≠ TO → c ≠ i1 → c ≠ i2 → s.heap.get? c = some o → h'.get? c = some o) → Q none { s with heap := h' }) : wpAny (model prog w) A (pyNext (.ref z)) Q E s := by
  have hT : s.TypeIs (.ref z) "zip" := ⟨_, hz, rfl⟩
  unfold pyNext
  refine wpAny_bind (wpAny_attempt (wpAny_callSpecial?_slot (name := Str.ofString "__next__") hT F.slot_zip_next
    (wpAny_call_entry F.slot_zip_next hT F.entry_zip_next (zipM_next_end hh D hz hTI hTO h1 h2 hl1 hl2 hend fun h' e hk he => ?_) (F.args_zip_next_1 _))))
  obtain ⟨o, ho, hc⟩ := he
  refine wpAny_bind (wpAny_isInstance (T := "StopIteration") (b := true) ⟨o, ho, hc⟩ isSubtype_stop ?_)
  exact wpAny_pure (hQ _ hk)
end

abbrev zipMH1 (h : Heap) (l1 : Addr) : Heap := h.push { cls := .type "tuple_iterator", data := .fields #[.ref l1, .int 0 0] }
abbrev zipMH2 (h : Heap) (l1 l2 : Addr) : Heap := (zipMH1 h l1).push { cls := .type "list_iterator", data := .fields #[.ref l2, .int 0 0] }
abbrev zipMH3 (h : Heap) (l1 l2 : Addr) : Heap := (zipMH2 h l1 l2).push { cls := .type "tuple", data := .seq #[.ref h.objs.size, .ref (zipMH1 h l1).objs.size] }
abbrev zipMH4 (h : Heap) (l1 l2 : Addr) : Heap := (zipMH3 h l1 l2).push { cls := .type "tuple", data := .seq #[.none, .none] }
abbrev zipMH5 (h : Heap) (l1 l2 : Addr) : Heap := (zipMH4 h l1 l2).push { cls := .type "zip", data := .fields #[.none, .bool false, .bool false, .ref (zipMH2 h l1 l2).objs.size, .ref (zipMH3 h l1 l2).objs.size] }

theorem meets_zipM_new (l1 l2 : Addr) (xs ys : Array Value) :
    Meets (Builtin.«zip.__new__» ⟨[.type "zip", .ref l1, .ref l2], []⟩) (fun _ R s => s.heap.IsTuple l1 xs ∧ s.heap.IsList l2 ys ∧
      R (.ok (.ret (.ref (zipMH4 s.heap l1 l2).objs.size))) { s with heap := zipMH5 s.heap l1 l2 }) :=
  .of_wp fun prog w A R s h => by
    obtain ⟨hp, g, d, tk, os⟩ := s; obtain ⟨hl1, hl2, h⟩ := h
    have hsub := sub_zip
    have hL1 : Heap.IsTuple (Shared.heap ⟨hp, g, d, tk, os⟩) l1 xs := hl1
    have hL2 : Heap.IsList (Shared.heap ⟨hp.push { cls := .type "tuple_iterator", data := .fields #[.ref l1, .int 0 0] }, g, d, tk, os⟩) l2 ys := Heap.IsList.push hl2 _
    wp_walk using wpAny_pyIter_tuple hL1, wpAny_pyIter_list hL2
    exact ⟨_, rfl, h⟩

section
variable {prog : Program} {w : World} {A : Around} {E : Value → Shared → Prop} {s : Shared}

theorem call_zipM {l1 l2 : Addr} {xs ys : Array Value} {Q : Value → Shared → Prop} (hl1 : s.heap.IsTuple l1 xs) (hl2 : s.heap.IsList l2 ys)
    (h : ∀ h', IsZip h' (s.heap.objs.size + 4) (s.heap.objs.size + 2) (s.heap.objs.size + 3) .none → IsPair h' (s.heap.objs.size + 2) (.ref s.heap.objs.size) (.ref (s.heap.objs.size + 1)) →
      IsPair h' (s.heap.objs.size + 3) .none .none → h'.IsTupleIter s.heap.objs.size l1 0 → h'.IsListIter (s.heap.objs.size + 1) l2 0 → h'.objs.size = s.heap.objs.size + 5 →
      (∀ c o, s.heap.get? c = some o → h'.get? c = some o) → Q (.ref (s.heap.objs.size + 4)) { s with heap := h' }) :
    wpAny (model prog w) A (call (.type "zip") [.ref l1, .ref l2]) Q E s := by
  refine callType_new F.called_zip (by decide) (F.typeCall_zip_2 _ _) (F.newCall_zip_2 _ _) (fun obj => F.args_object_init_3 obj _ _) F.entry_zip_new
    (meets_zipM_new l1 l2 xs ys) ⟨hl1, hl2, ?_⟩
  have z1 : (zipMH1 s.heap l1).objs.size = s.heap.objs.size + 1 := Heap.size_push ..
  have z2 : (zipMH2 s.heap l1 l2).objs.size = s.heap.objs.size + 2 := by rw [Heap.size_push, z1]
  have z3 : (zipMH3 s.heap l1 l2).objs.size = s.heap.objs.size + 3 := by rw [Heap.size_push, z2]
  have z4 : (zipMH4 s.heap l1 l2).objs.size = s.heap.objs.size + 4 := by rw [Heap.size_push, z3]
  have z5 : (zipMH5 s.heap l1 l2).objs.size = s.heap.objs.size + 5 := by rw [Heap.size_push, z4]
  have g5 : (zipMH5 s.heap l1 l2).get? (zipMH4 s.heap l1 l2).objs.size = some _ := Heap.get?_push_size _ rfl
  have g4 : (zipMH5 s.heap l1 l2).get? (zipMH3 s.heap l1 l2).objs.size = some _ := Heap.get?_push_of_some _ (Heap.get?_push_size _ rfl)
  have g3 : (zipMH5 s.heap l1 l2).get? (zipMH2 s.heap l1 l2).objs.size = some _ := Heap.get?_push_of_some _ (Heap.get?_push_of_some _ (Heap.get?_push_size _ rfl))
  have g2 : (zipMH5 s.heap l1 l2).get? (zipMH1 s.heap l1).objs.size = some _ := Heap.get?_push_of_some _ (Heap.get?_push_of_some _ (Heap.get?_push_of_some _ (Heap.get?_push_size _ rfl)))
  have g1 : (zipMH5 s.heap l1 l2).get? s.heap.objs.size = some _ := Heap.get?_push_of_some _ (Heap.get?_push_of_some _ (Heap.get?_push_of_some _ (Heap.get?_push_of_some _ (Heap.get?_push_size _ rfl))))
  show _ ∧ _
  rw [z2, z3, z4] at g5
  rw [z1, z2] at g3
  rw [z3] at g4
  rw [z1] at g2
  rw [z4]
  exact ⟨⟨_, g5, rfl⟩, h _ g5 g3 g4 ⟨_, g1, rfl, rfl⟩ ⟨_, g2, rfl, rfl⟩ z5 fun c o x =>
    Heap.get?_push_of_some _ (Heap.get?_push_of_some _ (Heap.get?_push_of_some _ (Heap.get?_push_of_some _ (Heap.get?_push_of_some _ x))))⟩
end
/-- the tuple at a and the list at b as they stand at each turn, the items in new pairs -/
def ItzM (K : PySem.W.Frag) (a b : Addr) : It :=
  ⟨fun i H => ∃ (xs ys : List V) (x y : V), SqT K H a xs ∧ SqL K H b ys ∧ xs[i]? = some x ∧ ys[i]? = some y,
    fun i H v H' => ∃ T x y, v = .ref T ∧ H T = none ∧ H' = upd H T (.tup [x, y]) ∧ (∀ xs, SqT K H a xs → xs[i]? = some x) ∧ ∀ ys, SqL K H b ys → ys[i]? = some y,
    fun i H => ∃ xs ys : List V, SqT K H a xs ∧ SqL K H b ys ∧ (xs.length ≤ i ∨ ys.length ≤ i)⟩
theorem turn_zipM {P : Program} {w : World} {K : PySem.W.Frag} {elts : List Expr} {kk : Nat} {tpos : Pos} {a b z TI TO i1 i2 : Addr} (D : ZipApart z TI TO i1 i2 a b) :
    Turn P w K (.Tuple elts kk tpos) (ItzM K a b) [z, TI, TO, i1, i2] z (fun i h => IsZip h z TI TO .none ∧ IsPair h TI (.ref i1) (.ref i2) ∧ (∃ x y, IsPair h TO x y) ∧ h.IsTupleIter i1 a i ∧ h.IsListIter i2 b i) where
  mem := by simp
  obj := fun i h st c hc => by
    obtain ⟨hz, hTI, ⟨x, y, hTO⟩, ⟨o1, e1, _, d1⟩, ⟨o2, e2, _, d2⟩⟩ := st
    have e' : c = z ∨ c = TI ∨ c = TO ∨ c = i1 ∨ c = i2 := by simpa using hc
    rcases e' with q | q | q | q | q
    · rw [q]; exact ⟨_, hz, fun v q => nomatch q⟩
    · rw [q]; exact ⟨_, hTI, fun v q => nomatch q⟩
    · rw [q]; exact ⟨_, hTO, fun v q => nomatch q⟩
    · rw [q]; exact ⟨o1, e1, fun v q => by rw [d1] at q; cases q⟩
    · rw [q]; exact ⟨o2, e2, fun v q => by rw [d2] at q; cases q⟩
  keep := fun i h h' st k => by
    obtain ⟨hz, hTI, ⟨x, y, hTO⟩, h1, h2⟩ := st
    exact ⟨k z (by simp) _ hz, k TI (by simp) _ hTI, ⟨x, y, k TO (by simp) _ hTO⟩, h1.at fun o q => k i1 (by simp) o q, h2.at fun o q => k i2 (by simp) o q⟩
  item := by
    intro X hP hw hK hc i pins s σ H E I hf st hg
    subst hP hw hK
    obtain ⟨hz, hTI, ⟨x0, y0, hTO⟩, h1, h2⟩ := st
    obtain ⟨xs, ys, x, y, hqx, hqy, hx, hy⟩ := hg
    obtain ⟨its, rv, p, _⟩ := I.tuple hqx
    obtain ⟨its2, rv2, p2, _⟩ := I.list hqy
    obtain ⟨u, hu, ru⟩ := rv.get hx
    obtain ⟨u2, hu2, ru2⟩ := rv2.get hy
    have hzl : z < s.heap.objs.size := Heap.lt_size hz
    refine pyNext_zipM_item D hz hTI hTO h1 h2 p p2.isList (x := u) (y := u2) (by simpa using hu) (by simpa using hu2) fun h' z' TO' h1' h2' hT hsz hk => ?_
    refine ⟨_, rfl, wpAny_letOwnedTupleGo_zip (s := { s with heap := h' }) z' fun h'' z'' sb => ?_⟩
    have hT2 : h''.get? s.heap.objs.size = some { cls := .type "tuple", data := .seq #[u, u2] } := (sb.2 _ (Nat.ne_of_gt hzl)).trans hT
    have new : ObjOk X.prog X.w (upd H s.heap.objs.size (.tup [x, y])) h'' s.heap.objs.size (.tup [x, y]) :=
      ⟨by show 2 ≤ sizeLine; decide, [u, u2], .cons ru (.cons ru2 .nil), ⟨_, hT2, rfl, _, rfl⟩⟩
    have I1 : Inv X pins σ (upd H s.heap.objs.size (.tup [x, y])) { s with heap := h'' } :=
      I.turnedNew (t' := s.toks) (ch := [z, TI, TO, i1, i2]) (fun c o hb q => (sb.2 c (fun q' => hb (by simp [q']))).trans (hk c o (fun q' => hb (by simp [q'])) (fun q' => hb (by simp [q'])) (fun q' => hb (by simp [q'])) (fun q' => hb (by simp [q'])) q)) hf (Nat.le_refl _) new
    refine ⟨.ref s.heap.objs.size, _, I1, rfl, ⟨_, x, y, rfl, I.hok.fresh (Nat.le_refl _), rfl, fun l hl => by rw [I.tuple_inj hl hqx]; exact hx, fun l hl => by rw [I.list_inj hl hqy]; exact hy⟩, ⟨z'', ?_, ⟨u, u2, ?_⟩, ?_, ?_⟩, fun c hcm => ?_⟩
    · exact (sb.2 _ D.TIz).trans (hk _ _ D.TIz D.TITO D.TIi1 D.TIi2 hTI)
    · exact (sb.2 _ D.TOz).trans TO'
    · exact h1'.at fun o q => (sb.2 _ D.i1z).trans q
    · exact h2'.at fun o q => (sb.2 _ D.i2z).trans q
    · have hlt : c < s.heap.objs.size := by
        have e' : c = z ∨ c = TI ∨ c = TO ∨ c = i1 ∨ c = i2 := by simpa using hcm
        rcases e' with q | q | q | q | q
        · rw [q]; exact hzl
        · rw [q]; exact Heap.lt_size hTI
        · rw [q]; exact Heap.lt_size hTO
        · rw [q]; obtain ⟨_, e1, _⟩ := h1; exact Heap.lt_size e1
        · rw [q]; obtain ⟨_, e2, _⟩ := h2; exact Heap.lt_size e2
      rw [upd_ne (Nat.ne_of_lt hlt)]
      exact (hf c hcm).1
  done := by
    intro X hP hw hK hc i pins s σ H E I hf st hg
    subst hP hw hK
    obtain ⟨hz, hTI, ⟨x0, y0, hTO⟩, h1, h2⟩ := st
    obtain ⟨xs, ys, hqx, hqy, hend⟩ := hg
    obtain ⟨its, rv, p, _⟩ := I.tuple hqx
    obtain ⟨its2, rv2, p2, _⟩ := I.list hqy
    have l1 := rv.length
    have l2 := rv2.length
    have he : its.toArray[i]? = none ∨ its2.toArray[i]? = none := by
      rcases hend with q | q
      · exact .inl (by simp; omega)
      · exact .inr (by simp; omega)
    exact pyNext_zipM_end (I.ok.hd hc) D hz hTI hTO h1 h2 p p2.isList he fun h' hk => ⟨rfl, I.turnedL (t' := s.toks) (ch := [z, TI, TO, i1, i2]) (fun c o hb q =>
      hk c o (fun q' => hb (by simp [q'])) (fun q' => hb (by simp [q'])) (fun q' => hb (by simp [q'])) (fun q' => hb (by simp [q'])) q) hf⟩
  self := fun A i s Q E st h => wpAny_pyIter_zip st.1 h

def iZipB (K : PySem.W.Frag) (ta : TA) : TI := fun σ H R => ta σ H fun vs H1 => ∃ a b xs ys, vs = [.ref a, .ref b] ∧ ((SqL K H1 a xs ∧ SqL K H1 b ys ∧ R (Itz K a b) H1) ∨ (SqT K H1 a xs ∧ SqT K H1 b ys ∧ R (ItzT K a b) H1) ∨ (SqT K H1 a xs ∧ SqL K H1 b ys ∧ R (ItzM K a b) H1))
theorem pi_zipB {X : Cx} {e e2 : Expr} {ta : TA} {p pos tpos : Pos} {elts : List Expr} {kk : Nat} (hg : Gl X "zip") (hm : X.mg "zip" = none) (ha : PA X [e, e2] ta)
    (hs : starEach [e, e2] X.env = (false, eval e X.env) :: starEach [e2] X.env := by rfl) (hpl : (backTo pos (starEach [e2] X.env)).any (·.1) = false := by rfl) :
    PI X (.Tuple elts kk tpos) (.Call (.Name "zip" p) [e, e2] [] pos) (iZipB X.K ta) := by
  refine ⟨fun pins s σ H R I h => ?_⟩
  refine Call_ (ld_blt I hg hm PyProof.Rows.boot_zip (PyProof.Rows.callWith_type1 (thn (ha.run pos pins s σ H _ I h) fun us s1 ⟨vs, H1, I1, r1, q1⟩ => ?_) hs hpl))
  obtain ⟨a, b, xs, ys, ex, q1⟩ := q1
  subst ex
  cases r1 with
  | cons r rr =>
    cases rr with
    | cons r' rr =>
      cases rr
      cases r
      cases r'
      have fresh5 : ∀ c, c ∈ [s1.heap.objs.size + 4, s1.heap.objs.size + 2, s1.heap.objs.size + 3, s1.heap.objs.size, s1.heap.objs.size + 1] → FpOk X pins H1 c := fun c hcm => by
        have e' : c = s1.heap.objs.size + 4 ∨ c = s1.heap.objs.size + 2 ∨ c = s1.heap.objs.size + 3 ∨ c = s1.heap.objs.size ∨ c = s1.heap.objs.size + 1 := by simpa using hcm
        have hle : s1.heap.objs.size ≤ c := by
          rcases e' with z | z | z | z | z
          · rw [z]; exact Nat.le_add_right _ _
          · rw [z]; exact Nat.le_add_right _ _
          · rw [z]; exact Nat.le_add_right _ _
          · rw [z]; exact Nat.le_refl _
          · rw [z]; exact Nat.le_add_right _ _
        exact I1.fpOk hle (I1.hok.fresh hle)
      rcases q1 with ⟨hqx, hqy, q⟩ | ⟨hqx, hqy, q⟩ | ⟨hqx, hqy, q⟩
      · obtain ⟨its, rv, p1, _⟩ := I1.list hqx
        obtain ⟨its2, rv2, p2, _⟩ := I1.list hqy
        refine call_zip_2 p1.isList p2.isList fun h' hz hTI hTO h1 h2 hsz hk => wpAny_pyIter_zip hz ?_
        have I2 : Inv X pins σ H1 { s1 with heap := h' } := I1.kept (t' := s1.toks) hk
        exact ⟨s1.heap.objs.size + 4, [s1.heap.objs.size + 4, s1.heap.objs.size + 2, s1.heap.objs.size + 3, s1.heap.objs.size, s1.heap.objs.size + 1], _, _, H1, rfl, I2, turn_zip (PySem.W.ktu_apart s1.heap.objs.size a b p1.lt p2.lt), ⟨hz, hTI, ⟨_, _, hTO⟩, h1, h2⟩, fresh5, q⟩
      · obtain ⟨its, rv, p1, _⟩ := I1.tuple hqx
        obtain ⟨its2, rv2, p2, _⟩ := I1.tuple hqy
        obtain ⟨o1, ho1, _⟩ := id p1
        obtain ⟨o2, ho2, _⟩ := id p2
        refine call_zipT (show s1.heap.IsTuple a its.toArray from p1) (show s1.heap.IsTuple b its2.toArray from p2) fun h' hz hTI hTO h1 h2 hsz hk => wpAny_pyIter_zip hz ?_
        have I2 : Inv X pins σ H1 { s1 with heap := h' } := I1.kept (t' := s1.toks) hk
        exact ⟨s1.heap.objs.size + 4, [s1.heap.objs.size + 4, s1.heap.objs.size + 2, s1.heap.objs.size + 3, s1.heap.objs.size, s1.heap.objs.size + 1], _, _, H1, rfl, I2, turn_zipT (PySem.W.ktu_apart s1.heap.objs.size a b (Heap.lt_size ho1) (Heap.lt_size ho2)), ⟨hz, hTI, ⟨_, _, hTO⟩, h1, h2⟩, fresh5, q⟩
      · obtain ⟨its, rv, p1, _⟩ := I1.tuple hqx
        obtain ⟨its2, rv2, p2, _⟩ := I1.list hqy
        obtain ⟨o1, ho1, _⟩ := id p1
        obtain ⟨o2, ho2, _⟩ := id p2.isList
        refine call_zipM (show s1.heap.IsTuple a its.toArray from p1) p2.isList fun h' hz hTI hTO h1 h2 hsz hk => wpAny_pyIter_zip hz ?_
        have I2 : Inv X pins σ H1 { s1 with heap := h' } := I1.kept (t' := s1.toks) hk
        exact ⟨s1.heap.objs.size + 4, [s1.heap.objs.size + 4, s1.heap.objs.size + 2, s1.heap.objs.size + 3, s1.heap.objs.size, s1.heap.objs.size + 1], _, _, H1, rfl, I2, turn_zipM (PySem.W.ktu_apart s1.heap.objs.size a b (Heap.lt_size ho1) (Heap.lt_size ho2)), ⟨hz, hTI, ⟨_, _, hTO⟩, h1, h2⟩, fresh5, q⟩


end Dn


/-! DnF: all, any, sum, max, min; zip, reversed. -/
namespace Dn
open PySem PySem.Spec L2 PyProof.Rows RZ
section
variable {X : Cx} {c : Kc} {W : WX} {n : Nat} {md : Bool} {e a b : Expr} {m ma mb mc : M Opd} {pos : Pos}
theorem repA_bools {G : Hp} : ∀ {xs : List V} {ds : List D} {bs : List Bool}, RepA c G xs ds → allBools ds = some bs → xs = bs.map V.bl
  | _, _, bs, .nil, h => by cases h; rfl
  | _, _, bs, .cons (d := d) (ds := ds) h1 t, h => by
    cases d with
    | bool x =>
      have h : (allBools ds).map (x :: ·) = some bs := h
      cases e : allBools ds with
      | none => rw [e] at h; cases h
      | some bs' =>
        rw [e] at h
        cases h
        cases h1
        rw [repA_bools t e]
        rfl
    | _ => cases h
theorem call_allD (hc : X.calm = true) (hK : c.K = X.K) : CallR X (.builtin "all") (rDN c allD) := by
  intro pins s σ H xs us Q I rx h
  obtain ⟨G, ds, r, ex, hd, hg, hr⟩ := h
  unfold allD at hg
  split at hg
  · rename_i ds
    cases hd with
    | cons h1 h2 =>
      cases h2
      cases hb : allBools ds with
      | none => rw [hb] at hg; cases hg
      | some bs =>
        rw [hb] at hg
        cases hg
        obtain ⟨p, vs, e1, q1, r1⟩ := orep_lst hK ex h1
        subst e1
        rw [repA_bools r1 hb] at q1
        exact cr_all hc pins s σ H _ us Q I rx ⟨p, bs, rfl, q1, resB hr⟩
  · cases hg
theorem call_anyD (hc : X.calm = true) (hK : c.K = X.K) : CallR X (.builtin "any") (rDN c anyD) := by
  intro pins s σ H xs us Q I rx h
  obtain ⟨G, ds, r, ex, hd, hg, hr⟩ := h
  unfold anyD at hg
  split at hg
  · rename_i ds
    cases hd with
    | cons h1 h2 =>
      cases h2
      cases hb : allBools ds with
      | none => rw [hb] at hg; cases hg
      | some bs =>
        rw [hb] at hg
        cases hg
        obtain ⟨p, vs, e1, q1, r1⟩ := orep_lst hK ex h1
        subst e1
        rw [repA_bools r1 hb] at q1
        exact cr_any hc pins s σ H _ us Q I rx ⟨p, bs, rfl, q1, resB hr⟩
  · cases hg
def allInts : List D → Option (List Int)
  | [] => some []
  | .int x :: ds => (allInts ds).map (x :: ·)
  | _ => none
theorem repA_ints' {G : Hp} : ∀ {xs : List V} {ds : List D} {bs : List Int}, RepA c G xs ds → allInts ds = some bs → xs = bs.map V.int
  | _, _, bs, .nil, h => by cases h; rfl
  | _, _, bs, .cons (d := d) (ds := ds) h1 t, h => by
    cases d with
    | int x =>
      have h : (allInts ds).map (x :: ·) = some bs := h
      cases e : allInts ds with
      | none => rw [e] at h; cases h
      | some bs' =>
        rw [e] at h
        cases h
        cases h1
        rw [repA_ints' t e]
        rfl
    | _ => cases h
def sumD : List D → Option D
  | [.list ds] => (allInts ds).map fun bs => .int bs.sum
  | _ => none
theorem call_sumD (hc : X.calm = true) (hK : c.K = X.K) : CallR X (.builtin "sum") (rDN c sumD) := by
  intro pins s σ H xs us Q I rx h
  obtain ⟨G, ds, r, ex, hd, hg, hr⟩ := h
  unfold sumD at hg
  split at hg
  · rename_i ds
    cases hd with
    | cons h1 h2 =>
      cases h2
      cases hb : allInts ds with
      | none => rw [hb] at hg; cases hg
      | some bs =>
        rw [hb] at hg
        cases hg
        obtain ⟨p, vs, e1, q1, r1⟩ := orep_lst hK ex h1
        subst e1
        rw [repA_ints' r1 hb] at q1
        exact cr_sum hc pins s σ H _ us Q I rx ⟨p, bs, rfl, q1, resI hr⟩
  · cases hg
/-! ### zip of two lists, or of two tuples -/
def zipL : D → D → Option (List D)
  | .list xs, .list ys => some ((xs.zip ys).map fun p => .tuple [p.1, p.2])
  | .tuple xs, .tuple ys => some ((xs.zip ys).map fun p => .tuple [p.1, p.2])
  | .tuple xs, .list ys => some ((xs.zip ys).map fun p => .tuple [p.1, p.2])
  | _, _ => none
def zipM (m n : M Opd) : M (List D) := bnd m fun o => bnd n fun p => bnd (stab o) fun d => bnd (stab p) fun e => lift (zipL d e)
theorem zip_at {xs ys : List D} {k : Nat} {d : D} (h : ((xs.zip ys).map fun p => PyData.tuple [p.1, p.2])[k]? = some d) : ∃ x y, xs[k]? = some x ∧ ys[k]? = some y ∧ d = .tuple [x, y] := by
  rw [List.getElem?_map] at h
  cases hz : (xs.zip ys)[k]? with
  | none => rw [hz] at h; cases h
  | some p =>
    rw [hz] at h
    cases h
    obtain ⟨h1, h2⟩ := List.getElem?_zip_eq_some.mp hz
    exact ⟨p.1, p.2, h1, h2, rfl⟩
theorem yl_zip {K : PySem.W.Frag} {G0 : Hp} {a b : Addr} {xs ys : List V} {ds es : List D} (hK : c.K = K) (h1 : SqL K G0 a xs) (h2 : RepA c G0 xs ds) (k1 : SqL K G0 b ys) (k2 : RepA c G0 ys es) : Yl c (Itz K a b) (ofL ((ds.zip es).map fun p => .tuple [p.1, p.2])) always ((ds.zip es).map fun p => PyData.tuple [p.1, p.2]).length G0 (fun _ _ => True) := by
  intro F ρ σ G H e R _
  have hq : SqL K H a xs := sqEx R.gh (sqEx e h1)
  have hq2 : SqL K H b ys := sqEx R.gh (sqEx e k1)
  refine ⟨fun k d hk hd => ?_, fun _ => ⟨xs, ys, hq, hq2, ?_⟩⟩
  · obtain ⟨dx, dy, g1, g2, rfl⟩ := zip_at hd
    obtain ⟨x, hx, rx⟩ := h2.get g1
    obtain ⟨y, hy, ry⟩ := k2.get g2
    refine ⟨⟨xs, ys, x, y, hq, hq2, hx, hy⟩, fun z H' hz => ?_⟩
    obtain ⟨T, x', y', rfl, hT, rfl, w1, w2⟩ := hz
    have ex := w1 xs hq
    rw [hx] at ex
    cases ex
    have ey := w2 ys hq2
    rw [hy] at ey
    cases ey
    have od : OD c G (.tup [x, y]) (.tuple [dx, dy]) := RepA.cons (rx.mono e) (RepA.cons (ry.mono e) .nil)
    refine ⟨upd G T (.tup [x, y]), Ex.new (R.gh.free hT), R.new hT, rep_new (R.gh.free hT) od (fun _ z => nomatch z), fun p o hp hg => ?_⟩
    have ne : p ≠ T := fun z => by subst z; rw [hT] at hp; cases hp
    exact ⟨by rw [upd_ne ne]; exact hp, by rw [upd_ne ne]; exact hg⟩
  · rw [List.length_map, List.length_zip, h2.length, k2.length]
    omega
theorem yl_zipT {K : PySem.W.Frag} {G0 : Hp} {a b : Addr} {xs ys : List V} {ds es : List D} (hK : c.K = K) (h1 : SqT K G0 a xs) (h2 : RepA c G0 xs ds) (k1 : SqT K G0 b ys) (k2 : RepA c G0 ys es) : Yl c (ItzT K a b) (ofL ((ds.zip es).map fun p => .tuple [p.1, p.2])) always ((ds.zip es).map fun p => PyData.tuple [p.1, p.2]).length G0 (fun _ _ => True) := by
  intro F ρ σ G H e R _
  have hq : SqT K H a xs := sqT_ex R.gh (sqT_ex e h1)
  have hq2 : SqT K H b ys := sqT_ex R.gh (sqT_ex e k1)
  refine ⟨fun k d hk hd => ?_, fun _ => ⟨xs, ys, hq, hq2, ?_⟩⟩
  · obtain ⟨dx, dy, g1, g2, rfl⟩ := zip_at hd
    obtain ⟨x, hx, rx⟩ := h2.get g1
    obtain ⟨y, hy, ry⟩ := k2.get g2
    refine ⟨⟨xs, ys, x, y, hq, hq2, hx, hy⟩, fun z H' hz => ?_⟩
    obtain ⟨T, x', y', rfl, hT, rfl, w1, w2⟩ := hz
    have ex := w1 xs hq
    rw [hx] at ex
    cases ex
    have ey := w2 ys hq2
    rw [hy] at ey
    cases ey
    have od : OD c G (.tup [x, y]) (.tuple [dx, dy]) := RepA.cons (rx.mono e) (RepA.cons (ry.mono e) .nil)
    refine ⟨upd G T (.tup [x, y]), Ex.new (R.gh.free hT), R.new hT, rep_new (R.gh.free hT) od (fun _ z => nomatch z), fun p o hp hg => ?_⟩
    have ne : p ≠ T := fun z => by subst z; rw [hT] at hp; cases hp
    exact ⟨by rw [upd_ne ne]; exact hp, by rw [upd_ne ne]; exact hg⟩
  · rw [List.length_map, List.length_zip, h2.length, k2.length]
    omega
theorem yl_zipM {K : PySem.W.Frag} {G0 : Hp} {a b : Addr} {xs ys : List V} {ds es : List D} (hK : c.K = K) (h1 : SqT K G0 a xs) (h2 : RepA c G0 xs ds) (k1 : SqL K G0 b ys) (k2 : RepA c G0 ys es) : Yl c (ItzM K a b) (ofL ((ds.zip es).map fun p => .tuple [p.1, p.2])) always ((ds.zip es).map fun p => PyData.tuple [p.1, p.2]).length G0 (fun _ _ => True) := by
  intro F ρ σ G H e R _
  have hq : SqT K H a xs := sqT_ex R.gh (sqT_ex e h1)
  have hq2 : SqL K H b ys := sqEx R.gh (sqEx e k1)
  refine ⟨fun k d hk hd => ?_, fun _ => ⟨xs, ys, hq, hq2, ?_⟩⟩
  · obtain ⟨dx, dy, g1, g2, rfl⟩ := zip_at hd
    obtain ⟨x, hx, rx⟩ := h2.get g1
    obtain ⟨y, hy, ry⟩ := k2.get g2
    refine ⟨⟨xs, ys, x, y, hq, hq2, hx, hy⟩, fun z H' hz => ?_⟩
    obtain ⟨T, x', y', rfl, hT, rfl, w1, w2⟩ := hz
    have ex := w1 xs hq
    rw [hx] at ex
    cases ex
    have ey := w2 ys hq2
    rw [hy] at ey
    cases ey
    have od : OD c G (.tup [x, y]) (.tuple [dx, dy]) := RepA.cons (rx.mono e) (RepA.cons (ry.mono e) .nil)
    refine ⟨upd G T (.tup [x, y]), Ex.new (R.gh.free hT), R.new hT, rep_new (R.gh.free hT) od (fun _ z => nomatch z), fun p o hp hg => ?_⟩
    have ne : p ≠ T := fun z => by subst z; rw [hT] at hp; cases hp
    exact ⟨by rw [upd_ne ne]; exact hp, by rw [upd_ne ne]; exact hg⟩
  · rw [List.length_map, List.length_zip, h2.length, k2.length]
    omega
theorem repL_at {K : PySem.W.Frag} {G : Hp} {x : V} {ds : List D} (hK : c.K = K) (h : Rep c G x (.list ds)) : ∃ a xs, x = .ref a ∧ SqL K G a xs ∧ RepA c G xs ds := by
  cases h with
  | lst h1 h2 => exact ⟨_, _, rfl, hK ▸ h1, h2⟩
theorem repT_at {K : PySem.W.Frag} {G : Hp} {x : V} {ds : List D} (hK : c.K = K) (h : Rep c G x (.tuple ds)) : ∃ a xs, x = .ref a ∧ SqT K G a xs ∧ RepA c G xs ds := by
  cases h with
  | tup h1 h2 => exact ⟨_, _, rfl, .inl (.inl h1), h2⟩
  | ktup h1 h2 _ => exact ⟨_, _, rfl, .inr (hK ▸ h1), h2⟩
theorem i_zip {elts : List Expr} {kk : Nat} {tpos p : Pos} (ha : EE X c W n a ma) (hb : EE X c W n b mb) (hm : X.mg "zip" = none) (hg : Gl X "zip" := by rfl) (hs : starEach [a, b] X.env = (false, eval a X.env) :: starEach [b] X.env := by rfl) (hs2 : starEach [b] X.env = (false, eval b X.env) :: starEach [] X.env := by rfl) (hpl : (backTo pos (starEach [b] X.env)).any (·.1) = false := by rfl) :
    IT X c W n (.Tuple elts kk tpos) (.Call (.Name "zip" p) [a, b] [] pos) (zipM ma mb) := fun k =>
  piMono (pi_zipB hg hm (pa_cons (ha k) (pa_cons (hb k) pa_nil hs2) hs) hs hpl) fun σ H Q ⟨F, ρ, G, R, p⟩ => tE_bind R p fun o ρ1 G1 H1 x e1 R1 r1 p1 => tE_bind R1 p1 fun o2 ρ2 G2 H2 y e2 R2 r2 p2 => by
    obtain ⟨d, q1, p3⟩ := stab_ok (H := H2) (r1.mono e2) p2
    obtain ⟨d2, q2, p4⟩ := stab_ok (H := H2) r2 p3
    obtain ⟨l, q3, p5⟩ := Pst.lift (f := fun l => ret l) (show Pst c F W σ G2 ((lift (zipL d d2) ρ2).next fun l => ret l) _ from by
      have : (lift (zipL d d2) ρ2).next (fun l => ret l) = lift (zipL d d2) ρ2 := by unfold lift; cases zipL d d2 <;> rfl
      rw [this]; exact p4)
    have q := Pst.use p5 R2
    unfold zipL at q3
    split at q3
    · cases q3
      obtain ⟨a', xs, rfl, w1, w2⟩ := repL_at k.hK q1
      obtain ⟨b', ys, rfl, w3, w4⟩ := repL_at k.hK q2
      exact ⟨a', b', xs, ys, rfl, .inl ⟨sqEx R2.gh w1, sqEx R2.gh w3, q _ (yl_zip k.hK w1 w2 w3 w4)⟩⟩
    · cases q3
      obtain ⟨a', xs, rfl, w1, w2⟩ := repT_at k.hK q1
      obtain ⟨b', ys, rfl, w3, w4⟩ := repT_at k.hK q2
      exact ⟨a', b', xs, ys, rfl, .inr (.inl ⟨sqT_ex R2.gh w1, sqT_ex R2.gh w3, q _ (yl_zipT k.hK w1 w2 w3 w4)⟩)⟩
    · cases q3
      obtain ⟨a', xs, rfl, w1, w2⟩ := repT_at k.hK q1
      obtain ⟨b', ys, rfl, w3, w4⟩ := repL_at k.hK q2
      exact ⟨a', b', xs, ys, rfl, .inr (.inr ⟨sqT_ex R2.gh w1, sqEx R2.gh w3, q _ (yl_zipM k.hK w1 w2 w3 w4)⟩)⟩
    · cases q3
end
end Dn


/-! DnG: len(set(..)) of tuples of ints. -/
namespace Dn
open PySem PySem.Spec L2 PyProof.Rows
def intTup : D → Option (List Int)
  | .tuple ds => allInts ds
  | _ => none
def intTups : List D → Option (List (List Int))
  | [] => some []
  | d :: ds => (intTup d).bind fun k => (intTups ds).map (k :: ·)
def ddp : List (List Int) → List (List Int)
  | [] => []
  | x :: xs => if x ∈ ddp xs then ddp xs else x :: ddp xs
theorem ddp_mem {y : List Int} : ∀ {xs : List (List Int)}, y ∈ ddp xs ↔ y ∈ xs
  | [] => Iff.rfl
  | x :: xs => by
    unfold ddp
    have ih := ddp_mem (y := y) (xs := xs)
    have ih2 := ddp_mem (y := x) (xs := xs)
    by_cases h : x ∈ ddp xs
    · rw [if_pos h, ih, List.mem_cons]
      exact ⟨.inr, fun z => z.elim (fun e => e ▸ ih2.mp h) id⟩
    · rw [if_neg h, List.mem_cons, List.mem_cons, ih]
theorem ddp_nodup : ∀ xs : List (List Int), (ddp xs).Nodup
  | [] => List.nodup_nil
  | x :: xs => by
    unfold ddp
    by_cases h : x ∈ ddp xs
    · rw [if_pos h]; exact ddp_nodup xs
    · rw [if_neg h]; exact List.nodup_cons.mpr ⟨h, ddp_nodup xs⟩
/-- how many unlike ones -/
def lensetD : D → Option D
  | .list ds => (intTups ds).bind fun kss => if kss.length < 64 then some (.int (ddp kss).length) else none
  | _ => none
section
variable {X : Cx} {c : Kc} {W : WX} {n : Nat} {md : Bool} {e a b : Expr} {m ma mb mc : M Opd} {pos : Pos}
def tLenSetT (K : PySem.W.Frag) (ta : TE) : TE := fun σ H Q => ta σ H fun x H1 => ∃ (l : Addr) (ks : List (Addr × List Int)), x = V.ref l ∧ SqL K H1 l (ks.map fun p => V.ref p.1) ∧ (∀ p ∈ ks, SqT K H1 p.1 (p.2.map V.int)) ∧ ks.length < 64 ∧
  ∀ L : List (Addr × List Int), (∀ p ∈ L, p ∈ ks) → (∀ p ∈ ks, p.2 ∈ L.map (·.2)) → (L.map (·.2)).Nodup → Q (.int L.length) H1
theorem pe_lenSetT {ta : TE} {p p2 q : Pos} (hc : X.calm = true) (hu : X.A.units + 64 < cLine) (hg : Gl X "len") (hm : X.mg "len" = none) (hg2 : Gl X "set") (hm2 : X.mg "set" = none) (ha : PE X a ta)
    (na : starEach [a] X.env = (false, eval a X.env) :: starEach [] X.env := by rfl) : PE X (.Call (.Name "len" p) [.Call (.Name "set" p2) [a] [] q] [] pos) (tLenSetT X.K ta) := by
  refine ⟨fun pins s σ H Q I h => ?_⟩
  refine Call_ (ld_blt I hg hm PySem.boot_len ?_)
  refine PyProof.Rows.callWith_builtin1 (PyProof.Rows.args_cons ?_ rfl) rfl rfl
  refine Call_ (ld_blt I hg2 hm2 PyProof.Rows.boot_set ?_)
  refine PyProof.Rows.callWith_type1 (PyProof.Rows.args_cons (thn (ha.run pins s σ H _ I h) fun v s1 ⟨x, H1, I1, r1, q1⟩ => PyProof.Rows.args_nil ?_) na) na rfl
  obtain ⟨l, ks, rfl, hl, hk, hf, q1⟩ := q1
  cases r1
  obtain ⟨its, rv, pl, hz⟩ := I1.list hl
  refine call_set_tups (P := X.prog) (w := X.w) ks (I1.ok.hd hc) pl.isList (by simpa using refs_of_vals rv) (fun p hp => I1.isT (hk p hp)) hf (by omega) fun h' tk L es ep t R g k => ?_
  refine PyProof.Rows.args_nil ?_
  obtain ⟨o, ho, hex, hd⟩ := R.ob
  have I2 : Inv X pins σ H1 { s1 with heap := h', toks := tk } := I1.kept k
  have hs : es.size = L.length := SetTR.size (s := { s1 with heap := h', toks := tk }) R
  have hfew := R.few
  refine call_len_set ho hex hd (SetTR.fits (s := { s1 with heap := h', toks := tk }) R) (by rw [hs]; omega) ⟨.int L.length, H1, I2.tok _, ⟨_, by rw [hs]⟩, q1 L (fun p hp => ?_) (fun p hp => ?_) R.nd⟩
  · exact List.mem_of_mem_take (g.sub p hp)
  · exact g.all p (by rw [List.take_length]; exact hp)
theorem rep_intTup {G H : Hp} {x : V} {d : D} {k : List Int} {K : PySem.W.Frag} (hK : c.K = K) (ex : Ex G H) (h : Rep c G x d) (e : intTup d = some k) : ∃ a, x = .ref a ∧ SqT K H a (k.map V.int) := by
  cases d with
  | tuple ds =>
    obtain ⟨a, xs, rfl, h1, h2⟩ := repT_at hK h
    rw [repA_ints' h2 e] at h1
    exact ⟨a, rfl, sqT_ex ex h1⟩
  | _ => cases e
theorem rep_intTups {G H : Hp} {K : PySem.W.Frag} (hK : c.K = K) (ex : Ex G H) : ∀ {xs : List V} {ds : List D} {kss : List (List Int)}, RepA c G xs ds → intTups ds = some kss → ∃ ks : List (Addr × List Int), xs = ks.map (fun p => V.ref p.1) ∧ ks.map (·.2) = kss ∧ ∀ p ∈ ks, SqT K H p.1 (p.2.map V.int)
  | _, _, kss, .nil, h => by
    cases h
    exact ⟨[], rfl, rfl, fun p hp => by cases hp⟩
  | _, _, kss, .cons (d := d) (ds := ds) h1 t, h => by
    have h : (intTup d).bind (fun k => (intTups ds).map (k :: ·)) = some kss := h
    cases e1 : intTup d with
    | none => rw [e1] at h; cases h
    | some k =>
      rw [e1] at h
      have h : (intTups ds).map (k :: ·) = some kss := h
      cases e2 : intTups ds with
      | none => rw [e2] at h; cases h
      | some kss' =>
        rw [e2] at h
        cases h
        obtain ⟨a, rfl, ha⟩ := rep_intTup hK ex h1 e1
        obtain ⟨ks, rfl, rfl, hk⟩ := rep_intTups hK ex t e2
        exact ⟨(a, k) :: ks, rfl, rfl, fun p hp => by
          rcases List.mem_cons.mp hp with rfl | hp
          · exact ha
          · exact hk p hp⟩
theorem e_lenset {p p2 q : Pos} (ha : EE X c W n a m) (hm : X.mg "len" = none) (hm2 : X.mg "set" = none) (hg : Gl X "len" := by rfl) (hg2 : Gl X "set" := by rfl)
    (na : starEach [a] X.env = (false, eval a X.env) :: starEach [] X.env := by rfl) : EE X c W n (.Call (.Name "len" p) [.Call (.Name "set" p2) [a] [] q] [] pos) (e1 lensetD m) := fun k =>
  peMono (pe_lenSetT k.calm (by have := k.hu; omega) hg hm hg2 hm2 (ha k) na) fun σ H Q ⟨F, ρ, G, R, p⟩ => tE_bind R p fun o ρ1 G1 H1 x e1 R1 r1 p1 => by
    obtain ⟨d, q1, p2⟩ := res_ok R1 r1 p1
    obtain ⟨r, q2, p3⟩ := Pst.lift p2
    unfold lensetD at q2
    split at q2
    · rename_i ds
      cases ek : intTups ds with
      | none => rw [ek] at q2; cases q2
      | some kss =>
        rw [ek] at q2
        have q2 : (if kss.length < 64 then some (PyData.int (ddp kss).length) else none) = some r := q2
        split at q2
        · rename_i hl
          cases q2
          obtain ⟨a', vs, rfl, w1, w2⟩ := orep_lst k.hK R1.gh q1
          obtain ⟨ks, rfl, rfl, hk⟩ := rep_intTups k.hK R1.gh w2 ek
          refine ⟨a', ks, rfl, w1, hk, by simpa using hl, fun L h1 h2 h3 => ?_⟩
          have e : L.length = (ddp (ks.map (·.2))).length := by
            have pm : (L.map (·.2)).Perm (ddp (ks.map (·.2))) := by
              rw [List.perm_ext_iff_of_nodup h3 (ddp_nodup _)]
              intro y
              rw [ddp_mem]
              constructor
              · intro hy
                obtain ⟨p, hp, rfl⟩ := List.mem_map.mp hy
                exact List.mem_map.mpr ⟨p, h1 p hp, rfl⟩
              · intro hy
                obtain ⟨p, hp, rfl⟩ := List.mem_map.mp hy
                exact h2 p hp
            have := pm.length_eq
            simpa using this
          rw [e]
          exact resI (resK_of R1 p3)
        · cases q2
    · cases q2
end
end Dn


/-! DnH: dicts whose keys are tuples of numbers. -/
/-! ### the order of tuples -/
namespace Dn
def lexL : List Int → List Int → Bool
  | [], [] => false
  | [], _ :: _ => true
  | _ :: _, [] => false
  | a :: as, b :: bs => if a = b then lexL as bs else decide (a < b)
theorem lexL_self (a : List Int) : lexL a a = false := by
  induction a with
  | nil => rfl
  | cons x xs ih => show (if x = x then lexL xs xs else decide (x < x)) = false; rw [if_pos rfl, ih]
theorem lexL_asym : ∀ {a b : List Int}, lexL a b = true → lexL b a = false
  | [], [], h => by cases h
  | [], _ :: _, _ => rfl
  | _ :: _, [], h => by cases h
  | x :: xs, y :: ys, h => by
    have h : (if x = y then lexL xs ys else decide (x < y)) = true := h
    show (if y = x then lexL ys xs else decide (y < x)) = false
    by_cases e : x = y
    · subst e
      rw [if_pos rfl] at h ⊢
      exact lexL_asym h
    · rw [if_neg e] at h
      rw [if_neg (Ne.symm e)]
      have := of_decide_eq_true h
      exact decide_eq_false (by omega)
theorem lexL_tot : ∀ {a b : List Int}, lexL a b = false → lexL b a = false → a = b
  | [], [], _, _ => rfl
  | [], _ :: _, h, _ => by cases h
  | _ :: _, [], _, h => by cases h
  | x :: xs, y :: ys, h, g => by
    have h : (if x = y then lexL xs ys else decide (x < y)) = false := h
    have g : (if y = x then lexL ys xs else decide (y < x)) = false := g
    by_cases e : x = y
    · subst e
      rw [if_pos rfl] at h g
      rw [lexL_tot h g]
    · rw [if_neg e] at h
      rw [if_neg (Ne.symm e)] at g
      have := of_decide_eq_false h
      have := of_decide_eq_false g
      omega
theorem lexL_tr : ∀ {a b d : List Int}, lexL b a = false → lexL d b = false → lexL d a = false
  | _, _, [], h, g => by
    rename_i a b
    cases b with
    | nil => exact h
    | cons => cases g
  | [], _, _ :: _, _, _ => rfl
  | x :: xs, [], z :: zs, h, _ => by cases h
  | x :: xs, y :: ys, z :: zs, h0, g0 => by
    have h : (if y = x then lexL ys xs else decide (y < x)) = false := h0
    have g : (if z = y then lexL zs ys else decide (z < y)) = false := g0
    show (if z = x then lexL zs xs else decide (z < x)) = false
    by_cases e1 : y = x
    · subst e1
      rw [if_pos rfl] at h
      by_cases e2 : z = y
      · subst e2
        rw [if_pos rfl] at g ⊢
        exact lexL_tr h g
      · rw [if_neg e2] at g ⊢
        exact g
    · rw [if_neg e1] at h
      have h1 := of_decide_eq_false h
      by_cases e2 : z = y
      · subst e2
        rw [if_neg e1]
        exact h
      · rw [if_neg e2] at g
        have h2 := of_decide_eq_false g
        rw [if_neg (by omega)]
        exact decide_eq_false (by omega)
/-- such lists in order -/
def insK (x : List Int) : List (List Int) → List (List Int)
  | [] => [x]
  | y :: ys => if lexL y x = true then y :: insK x ys else x :: y :: ys
def sortK : List (List Int) → List (List Int)
  | [] => []
  | x :: xs => insK x (sortK xs)
theorem insK_perm (x : List Int) : ∀ ys, (insK x ys).Perm (x :: ys)
  | [] => List.Perm.refl _
  | y :: ys => by
    unfold insK
    split
    · exact ((insK_perm x ys).cons y).trans (List.Perm.swap x y ys)
    · exact List.Perm.refl _
theorem sortK_perm : ∀ xs, (sortK xs).Perm xs
  | [] => List.Perm.refl _
  | x :: xs => (insK_perm x (sortK xs)).trans ((sortK_perm xs).cons x)
def SrtL (xs : List (List Int)) : Prop := xs.Pairwise fun a b => lexL b a = false
theorem insK_srt {x : List Int} : ∀ {ys}, SrtL ys → SrtL (insK x ys)
  | [], _ => List.pairwise_singleton _ _
  | y :: ys, h => by
    obtain ⟨h1, h2⟩ := List.pairwise_cons.mp h
    unfold insK
    split
    · rename_i hl
      refine List.pairwise_cons.mpr ⟨fun z hz => ?_, insK_srt h2⟩
      rcases List.mem_cons.mp ((insK_perm x ys).mem_iff.mp hz) with e | e
      · rw [e]; exact lexL_asym hl
      · exact h1 z e
    · rename_i hl
      have hl : lexL y x = false := by simpa using hl
      refine List.pairwise_cons.mpr ⟨fun z hz => ?_, h⟩
      rcases List.mem_cons.mp hz with e | e
      · rw [e]; exact hl
      · exact lexL_tr hl (h1 z e)
theorem sortK_srt : ∀ xs, SrtL (sortK xs)
  | [] => List.Pairwise.nil
  | x :: xs => insK_srt (sortK_srt xs)
theorem srt_uniq : ∀ {l m : List (List Int)}, SrtL l → SrtL m → l.Perm m → l = m
  | [], m, _, _, h => (List.Perm.eq_nil h.symm).symm
  | x :: l, [], _, _, h => absurd h.length_eq (by simp)
  | x :: l, y :: m, hl, hm, h => by
    obtain ⟨a1, a2⟩ := List.pairwise_cons.mp hl
    obtain ⟨b1, b2⟩ := List.pairwise_cons.mp hm
    have h1 : lexL x y = false := by
      rcases List.mem_cons.mp (h.mem_iff.mp (List.mem_cons_self (a := x) (l := l))) with e | e
      · rw [e]; exact lexL_self y
      · exact b1 x e
    have h2 : lexL y x = false := by
      rcases List.mem_cons.mp (h.mem_iff.mpr (List.mem_cons_self (a := y) (l := m))) with e | e
      · rw [e]; exact lexL_self x
      · exact a1 y e
    have e := lexL_tot h1 h2
    subst e
    rw [srt_uniq a2 b2 h.cons_inv]
end Dn

/-! ### sorted of a dict -/
namespace Dn
open PySem PySem.Spec PyProof.Rows L2
theorem swo_lexL (k : Value → List Int) : SrtO.Swo fun v u => lexL (k v) (k u) := ⟨fun _ _ h => lexL_asym h, fun _ _ _ h g => lexL_tr h g⟩
section
variable {prog : Program} {w : World} {A : Around} {s : Shared}
theorem lex_list {b : Bool} {Q : Bool → Shared → Prop} {xs ys : List Value} {ns ms : List Int} (i : Nat) (hx : IntsAre xs ns) (hy : IntsAre ys ms) (hl : ns.length = ms.length) (h : Q (lexL ns ms) s) : PySem.W.KatLex prog w A b false Q (xs.zip ys) i s := by
  induction hx generalizing ys ms i with
  | nil =>
    cases hy with
    | nil => exact PySem.W.kat_nil h
    | cons q u hy => simp at hl
  | @cons p t xs ns hx ih =>
    cases hy with
    | nil => simp at hl
    | @cons q u ys ms hy =>
      have hl' : ns.length = ms.length := by simpa using hl
      have h : Q (if p = q then lexL ns ms else decide (p < q)) s := h
      show PySem.W.KatLex prog w A b false Q ((Value.int p t, Value.int q u) :: xs.zip ys) i s
      refine PySem.W.kat_cons (wpAny_eqBool_int ?_)
      by_cases e : p = q
      · subst e
        rw [beq_self_eq_true]
        rw [if_pos rfl] at h
        refine PySem.W.kat_yes ?_
        first
          | exact ih (i + 1) hy hl' h
          | exact ih _ _ (i + 1) hy hl' h
      · rw [show (p == q) = false from beq_eq_false_iff_ne.mpr e]
        rw [if_neg e] at h
        exact PySem.W.kat_no (TS.oneLt_ints _ h)
/-- tuples of d numbers -/
def TupsL (h : Heap) (d : Nat) (vs : List Value) : Prop := ∀ v, v ∈ vs → ∃ ns, TS.TupInts h v ns ∧ ns.length = d
theorem firstsL {h : Heap} {d : Nat} (hd : 1 ≤ d) : ∀ vs : List Value, TupsL h d vs → ∃ fs, PySem.W.KatTups h vs fs ∧ fs.length = vs.length ∧ ∀ f, f ∈ fs → ∃ n t, f = Value.int n t
  | [], _ => ⟨[], PySem.W.KatTups.nil, rfl, fun f hf => by simp at hf⟩
  | v :: vs, x => by
    obtain ⟨fs, k, hl, hi⟩ := firstsL hd vs fun u hu => x u (List.mem_cons_of_mem _ hu)
    obtain ⟨ns, ⟨a, xs, rfl, ⟨o, ho, hc, n, hdt⟩, i⟩, hn⟩ := x v (List.mem_cons_self ..)
    obtain ⟨y, ys, e⟩ : ∃ y ys, xs.toList = y :: ys := by
      cases q : xs.toList with
      | nil =>
        rw [q] at i
        cases i
        simp at hn
        omega
      | cons y ys => exact ⟨y, ys, rfl⟩
    have hx0 : xs[0]? = some y := by rw [← Array.getElem?_toList, e]; rfl
    refine ⟨y :: fs, PySem.W.KatTups.cons ho hc hdt hx0 k, by rw [List.length_cons, List.length_cons, hl], fun f hf => ?_⟩
    rcases List.mem_cons.mp hf with rfl | hf
    · rw [e] at i
      cases i with
      | cons n t _ => exact ⟨n, t, rfl⟩
    · exact hi f hf
theorem tup_cmp {d : Nat} {vs : List Value} {k : Value → List Int} (x : TupsL s.heap d vs) (hk : ∀ v ∈ vs, ∀ ns, TS.TupInts s.heap v ns → k v = ns) : SrtO.Cmp prog w A s (tuples' true) (fun p => p.1 ∈ vs) (SrtO.lt2 fun v u => lexL (k v) (k u)) := by
  intro p q hm hm'
  obtain ⟨ns, tp, lp⟩ := x _ hm
  obtain ⟨ms, tq, lq⟩ := x _ hm'
  show wpAny (model prog w) A (keyLt' (tuples' true) p.1 q.1) (fun r s' => s' = s ∧ r = lexL (k p.1) (k q.1)) (fun _ _ => False) s
  rw [hk _ hm _ tp, hk _ hm' _ tq]
  obtain ⟨a, xs, e1, ⟨o, ho, hc, n, hdt⟩, i⟩ := tp
  obtain ⟨a', ys, e2, ⟨o', ho', hc', n', hdt'⟩, i'⟩ := tq
  rw [e1, e2]
  refine PySem.W.kat_lt ho hdt ho' hdt' ?_
  have sz : decide (xs.size < ys.size) = false := by
    have l1 := i.length
    have l2 := i'.length
    rw [Array.length_toList] at l1 l2
    exact decide_eq_false (by omega)
  rw [sz]
  exact lex_list 0 i i' (by omega) ⟨rfl, rfl⟩
theorem tups_sortable {a : Addr} {d : Nat} {vs : List Value} {k : Value → List Int} (hd : 1 ≤ d) (h0 : 0 < vs.length) (x : TupsL s.heap d vs) (hk : ∀ v ∈ vs, ∀ ns, TS.TupInts s.heap v ns → k v = ns) (ha : ∀ o, s.heap.get? a = some o → o.cls ≠ .type "tuple") : SrtO.SortableO prog w A s a vs fun v u => lexL (k v) (k u) := by
  intro h' keep
  have kp : ∀ b o, s.heap.get? b = some o → o.cls = .type "tuple" → h'.get? b = some o := fun b o e c => keep b o (fun z => by subst z; exact ha o e c) e
  have x' : TupsL h' d vs := fun v hv => by
    obtain ⟨ns, t, l⟩ := x v hv
    exact ⟨ns, t.keeps kp, l⟩
  have hk' : ∀ v ∈ vs, ∀ ns, TS.TupInts h' v ns → k v = ns := fun v hv ns t => by
    obtain ⟨ms, t2, l2⟩ := x v hv
    rw [hk v hv ms t2, ← (t2.keeps kp).ints, t.ints]
  obtain ⟨fs, h1, h2, h3⟩ := firstsL hd vs x'
  refine ⟨tuples' true, fun Q E hq => ?_, tup_cmp (s := { s with heap := h' }) x' hk'⟩
  refine PySem.W.kat_kind (T := .type "int") h1 (by omega) (fun f hm => ?_) (by rfl) ?_
  · obtain ⟨n, t, rfl⟩ := h3 f hm
    exact PySem.W.Looks.now
  · have e : (Value.type "int" != Value.type "tuple") = true := by first | decide +kernel | rfl | decide
    rw [e]
    exact hq
end
/-- sorted(d): the keys are tuples of d numbers -/
def rSortDT : List V → Hp → VK → Prop := fun xs H Q => ∃ (a : Addr) (kvs : List (List Key × V)) (ks : List (List Int)) (d : Nat), xs = [.ref a] ∧ H a = some (.dT kvs) ∧ kvs.map (·.1) = ks.map (fun k => k.map Sum.inl) ∧ (∀ k ∈ ks, k.length = d) ∧ (1 ≤ d ∨ ks.length ≤ 1) ∧
  ∀ (p : Addr) (bs : List Addr), H p = none → Paired (fun b k => H b = some (.tup (k.map V.int))) bs (sortK ks) → Q (.ref p) (upd H p (.lst (bs.map V.ref)))
theorem cr_sortDT {X : Cx} (hc : X.calm = true) : CallR X (.builtin "sorted") rSortDT := by
  intro pins s σ H xs us Q I r h
  obtain ⟨a, kvs, ks, d, rfl, hd, hks, hlen, hd1, q⟩ := h
  obtain ⟨u, rfl, rx⟩ := r.one
  cases rx
  obtain ⟨z, hs, ms, pr, o, es, ep, ho, hx, hdt, he, hn⟩ := (show ObjOk X.prog X.w H s.heap a (.dT kvs) from I.hok a _ hd)
  have l1 : es.size = ms.length := size_of_entries he
  have l2 : kvs.length = ms.length := Paired.length pr
  have l3 : kvs.length = ks.length := by
    have := congrArg List.length hks
    rwa [List.length_map, List.length_map] at this
  refine Calls.call_function_entry PyProof.Rows.kind_sorted PyProof.Rows.plain_sorted PyProof.Rows.entry_sorted (PyProof.Rows.args_sorted1 _) ?_
  unfold Builtin.«sorted»
  refine wpAny_bind (m := checkCount "sorted" 1 1 _) (wpAny_pure ?_)
  refine wpAny_bind (PySem.W.kdu_collect (A := X.A.in1) (kdl_raw hs hx hdt) (I.ok.hd hc) ho (by omega) fun h' tk acc kp it => ?_)
  have ea : acc.toList = ms.map fun x => Value.ref x.2.1 := by
    have hl : acc.toList.length = ms.length := by rw [Array.length_toList, it.1]; exact l1
    apply List.ext_getElem?
    intro j
    rw [List.getElem?_map]
    cases hj : acc.toList[j]? with
    | none =>
      have h1 := List.getElem?_eq_none_iff.mp hj
      rw [List.getElem?_eq_none (by omega)]
      rfl
    | some v =>
      obtain ⟨en, hen, hv⟩ := it.2 j v (by rw [← Array.getElem?_toList]; exact hj)
      have qe := PySem.entry_at he j
      rw [hen] at qe
      cases hb : ms[j]? with
      | none =>
        rw [hb] at qe
        exact nomatch (show some en = none from qe)
      | some b =>
        rw [hb] at qe
        have e2 : en = entryOfKey (tupleKind (mixKind X.prog X.w)) b := Option.some.inj qe
        rw [hv, e2]
        rfl
  -- each key's tuple
  have keyOf : ∀ x ∈ ms, ∃ k : List Int, H x.2.1 = some (.tup (k.map V.int)) ∧ k.length = d ∧ x.1 = k.map Sum.inl := by
    intro x hx
    obtain ⟨j, hj⟩ := List.getElem?_of_mem hx
    obtain ⟨p, hp, g1, g2, g3⟩ := L2.DX.pget pr hj
    have hk : (ks.map fun k => k.map (Sum.inl : Int → Key))[j]? = some p.1 := by rw [← hks, List.getElem?_map, hp]; rfl
    rw [List.getElem?_map] at hk
    cases hkj : ks[j]? with
    | none => rw [hkj] at hk; cases hk
    | some k =>
      rw [hkj] at hk
      have ek : k.map (Sum.inl : Int → Key) = p.1 := Option.some.inj hk
      refine ⟨k, ?_, hlen k (List.mem_of_getElem? hkj), by rw [← g1, ← ek]⟩
      rw [g2, ← ek, List.map_map]
      rfl
  have ksOf : (ms.map fun x => x.1) = ks.map fun k => k.map (Sum.inl : Int → Key) := by
    rw [← hks]
    have main : ∀ {l : List (List Key × V)} {m : List (List Key × Addr × Value)}, KT H l m → (m.map fun x => x.1) = l.map fun x => x.1 := by
      intro l m p
      induction p with
      | nil => rfl
      | cons h t ih => rw [List.map_cons, List.map_cons, ih, h.1]
    exact main pr
  have tupAt : ∀ (b : Addr) (k : List Int), H b = some (.tup (k.map V.int)) → TS.TupInts s.heap (.ref b) k := fun b k e => by
    obtain ⟨_, its, rv, ot, hot, hct, nt, hdt'⟩ := (show ObjOk X.prog X.w H s.heap b (.tup (k.map V.int)) from I.hok b _ e)
    exact ⟨b, its.toArray, rfl, ⟨ot, hot, hct, nt, hdt'⟩, by simpa using rv.ints⟩
  have I1 : Inv X pins σ H { s with heap := h', toks := tk } := I.kept kp
  have hal : acc.toList.length = ms.length := by rw [ea, List.length_map]
  refine wpAny_bind (wpAny_newList ?_ (by rw [hal]; omega))
  have hoL : (h'.push (seqObj "list" acc.toList.toArray 0)).get? h'.objs.size = some (seqObj "list" acc.toList.toArray 0) := Heap.get?_push_size _ rfl
  show wpAny _ _ _ _ _ { s with heap := h'.push (seqObj "list" acc.toList.toArray 0), toks := tk }
  have k2 : ∀ b o, s.heap.get? b = some o → (h'.push (seqObj "list" acc.toList.toArray 0)).get? b = some o := fun b o e => Heap.get?_push_of_some _ (kp b o e)
  have tupL : ∀ v ∈ acc.toList, ∃ k : List Int, TS.TupInts (h'.push (seqObj "list" acc.toList.toArray 0)) v k ∧ k.length = d ∧ ∃ b, v = .ref b ∧ H b = some (.tup (k.map V.int)) := fun v hv => by
    rw [ea] at hv
    obtain ⟨x, hx, rfl⟩ := List.mem_map.mp hv
    obtain ⟨k, g1, g2, g3⟩ := keyOf x hx
    exact ⟨k, (tupAt _ k g1).keeps fun b o e _ => k2 b o e, g2, _, rfl, g1⟩
  let kf : Value → List Int := TS.intsOf (h'.push (seqObj "list" acc.toList.toArray 0))
  refine wpAny_bind (wpAny_holding (wpAny_call_entry PyProof.Rows.slot_list_sort ⟨_, hoL, rfl⟩ PyProof.Rows.entry_list_sort
    (SrtO.list_sort_ord (s := { s with heap := h'.push (seqObj "list" acc.toList.toArray 0), toks := tk }) (swo_lexL kf) hoL (by rw [hal]; omega) (fun h2 => ?_) fun out hsrt hstb => ⟨_, rfl, ?_⟩)
    (PyProof.Rows.args_list_sort _)))
  · have hd2 : 1 ≤ d := by
      rcases hd1 with e | e
      · exact e
      · omega
    exact tups_sortable (s := { s with heap := h'.push (seqObj "list" acc.toList.toArray 0), toks := tk }) hd2 (by omega) (fun v hv => by
      obtain ⟨k, g1, g2, _⟩ := tupL v hv
      exact ⟨k, g1, g2⟩) (fun v hv ns t => t.ints) fun o e c => by
        have e' : some o = some (seqObj "list" acc.toList.toArray 0) := e.symm.trans hoL
        cases e'
        exact absurd (Value.type.inj c) (by decide)
  -- what came out
  obtain ⟨e', he'⟩ := PyProof.Rows.sortedHeap_at (vs := acc.toList) (out := out.toArray) hoL
  have hmem : ∀ v ∈ out, v ∈ acc.toList := fun v hv => hstb.perm.mem_iff.mp hv
  have main : ∀ l : List Value, (∀ v ∈ l, v ∈ acc.toList) → ∃ bs : List Addr, l = bs.map Value.ref ∧ Paired (fun b k => H b = some (.tup (k.map V.int))) bs (l.map kf) := by
    intro l
    induction l with
    | nil => exact fun _ => ⟨[], rfl, .nil⟩
    | cons v l ih =>
      intro hl
      obtain ⟨bs, e1, p1⟩ := ih fun u hu => hl u (List.mem_cons_of_mem _ hu)
      obtain ⟨k, g1, g2, b, rfl, g3⟩ := tupL v (hl v List.mem_cons_self)
      refine ⟨b :: bs, by rw [e1]; rfl, ?_⟩
      rw [List.map_cons]
      refine .cons ?_ p1
      have : kf (.ref b) = k := g1.ints
      rw [this]
      exact g3
  obtain ⟨bs, ebs, pbs⟩ := main out hmem
  have hkf : acc.toList.map kf = ks := by
    have h1 : ∀ {m : List (List Key × Addr × Value)} {ks : List (List Int)}, (∀ x ∈ m, x ∈ ms) → (m.map fun x => x.1) = ks.map (fun k => k.map (Sum.inl : Int → Key)) → (m.map fun x => kf (Value.ref x.2.1)) = ks := by
      intro m
      induction m with
      | nil => intro ks _ e; cases ks with
        | nil => rfl
        | cons => cases e
      | cons x m ih => intro ks hm e; cases ks with
        | nil => cases e
        | cons k ks =>
          rw [List.map_cons, List.map_cons] at e
          obtain ⟨e1, e2⟩ := List.cons.inj e
          rw [List.map_cons, ih (fun y hy => hm y (List.mem_cons_of_mem _ hy)) e2]
          congr 1
          obtain ⟨k', g1, g2, g3⟩ := keyOf x (hm x List.mem_cons_self)
          have t1 : kf (Value.ref x.2.1) = k' := ((tupAt _ k' g1).keeps fun b o e _ => k2 b o e).ints
          rw [t1]
          have e3 : k'.map (Sum.inl : Int → Key) = k.map Sum.inl := g3.symm.trans e1
          exact (List.map_inj_right (fun a b h => Sum.inl.inj h)).mp e3
    rw [ea, List.map_map]
    exact h1 (fun x hx => hx) ksOf
  have hsk : out.map kf = sortK ks := by
    refine srt_uniq (List.pairwise_map.mpr hsrt) (sortK_srt ks) ?_
    rw [← hkf]
    exact (hstb.perm.map kf).trans (sortK_perm _).symm
  rw [hsk] at pbs
  have hlen2 : (bs.map V.ref).length ≤ sizeLine := by
    have a1 : out.length = acc.toList.length := hstb.perm.length_eq
    have a2 : bs.length = out.length := by rw [ebs, List.length_map]
    rw [List.length_map]
    omega
  refine wpAny_pure ⟨_, rfl, .ref h'.objs.size, upd H h'.objs.size (.lst (bs.map V.ref)), I1.laid (t' := tk) (fun b u e => ?_) (Nat.le_refl _)
    (show ObjOk X.prog X.w _ _ _ (.lst (bs.map V.ref)) from ⟨hlen2, out, e', by rw [ebs]; exact vals_refs bs, he'⟩), rfl, q _ bs (I1.hok.fresh (Nat.le_refl _)) pbs⟩
  have hb : b < h'.objs.size := Heap.lt_size e
  rw [PyProof.Rows.sortedHeap_old (Nat.ne_of_lt hb) (by rw [size_push']; exact Nat.lt_succ_of_lt hb)]
  exact Heap.get?_push_of_some _ e
end Dn


/-! DnI: own dicts with tuples of numbers as keys, in the language of values. -/
namespace Dn
open PySem PySem.Spec L2 PyProof.Rows
/-- a tuple of numbers as a key; of three or fifteen numbers only where no such constants stand in the text (z) -/
def tkey (z : Bool) (d : D) : Option (List Int) := (intTup d).bind fun ks => if z || (ks.length != 3 && ks.length != 15) then some ks else none
def tdict : D → Option (List (D × D))
  | .dict ((.none, .none) :: qs) => some qs
  | _ => none
def tixD (z : Bool) (d k : D) : Option D := (tdict d).bind fun qs => (tkey z k).bind fun _ => lookD qs k
def tgetD (z : Bool) (d k x : D) : Option D := (tdict d).bind fun qs => (tkey z k).bind fun _ => some ((lookD qs k).getD x)
def tputD (z : Bool) (k x : D) : D → Option D := fun d => (tdict d).bind fun qs => (tkey z k).bind fun _ => if qs.length < 1000000 then some (.dict ((.none, .none) :: putL qs k x)) else none
def tsortN : List D → Option D
  | [d] => (tdict d).bind fun qs => (intTups (qs.map (·.1))).bind fun ks => if (ks.all fun k => k.length == (ks.headD []).length) && (decide (1 ≤ (ks.headD []).length) || decide (ks.length ≤ 1)) then some (.list ((sortK ks).map fun k => .tuple (k.map PyData.int))) else none
  | _ => none
/-- no key is a constant of the module -/
def TKc (c : Kc) (z : Bool) : Prop := ∀ d ks, tkey z d = some ks → c.kc d = false
theorem tdict_some {d : D} {qs : List (D × D)} (h : tdict d = some qs) : d = .dict ((.none, .none) :: qs) := by
  unfold tdict at h
  split at h
  · cases h; rfl
  · cases h
theorem allInts_map : ∀ {ds : List D} {ks : List Int}, allInts ds = some ks → ds = ks.map PyData.int
  | [], _, h => by cases h; rfl
  | .int x :: ds, ks, h => by
    have h : (allInts ds).map (x :: ·) = some ks := h
    cases e : allInts ds with
    | none => rw [e] at h; cases h
    | some k =>
      rw [e] at h
      cases h
      rw [allInts_map e]
      rfl
  | .none :: _, _, h => by cases h
  | .bool _ :: _, _, h => by cases h
  | .str _ :: _, _, h => by cases h
  | .list _ :: _, _, h => by cases h
  | .tuple _ :: _, _, h => by cases h
  | .dict _ :: _, _, h => by cases h
theorem tkey_tup {z : Bool} {d : D} {ks : List Int} (h : tkey z d = some ks) : d = .tuple (ks.map PyData.int) := by
  unfold tkey at h
  cases e : intTup d with
  | none => rw [e] at h; cases h
  | some k =>
    rw [e] at h
    have h : (if z || (k.length != 3 && k.length != 15) then some k else none) = some ks := h
    split at h
    · cases h
      cases d with
      | tuple ds => rw [allInts_map e]
      | _ => cases e
    · cases h
abbrev kT (k : List Int) : List Key := k.map Sum.inl
theorem kT_V (k : List Int) : (kT k).map kV = k.map V.int := by rw [List.map_map]; rfl
theorem kT_D (k : List Int) : (kT k).map keyD = k.map PyData.int := by rw [List.map_map]; rfl
theorem eqv_keys (a b : List Key) : PyData.eqv (.tuple (a.map keyD)) (.tuple (b.map keyD)) = decide (a = b) := by
  show PyData.eqvAll (a.map keyD) (b.map keyD) = _
  induction a generalizing b with
  | nil => cases b <;> simp [PyData.eqvAll]
  | cons x xs ih => cases b with
    | nil => simp [PyData.eqvAll]
    | cons y ys =>
      simp only [List.map_cons, PyData.eqvAll, ih, keyD_eqv]
      by_cases h : x = y <;> simp [h]
section
variable {c : Kc} {G H : Hp}
abbrev PT (c : Kc) (G : Hp) : List (List Key × V) → List (D × D) → Prop := Paired (fun (kv : List Key × V) (p : D × D) => p.1 = .tuple (kv.1.map keyD) ∧ Rep c G kv.2 p.2)
theorem look_pairT {kvs : List (List Key × V)} {ps : List (D × D)} (h : PT c G kvs ps) (k : List Key) : match lookD ps (.tuple (k.map keyD)) with
    | some d => ∃ v, valV kvs k = some v ∧ Rep c G v d
    | none => valV kvs k = none := by
  induction h with
  | nil => rfl
  | @cons kv p kvs ps h1 t ih =>
    obtain ⟨e, r⟩ := h1
    unfold lookD
    rw [List.find?_cons, e, eqv_keys]
    by_cases z : kv.1 = k
    · rw [decide_eq_true z, valV_pos z]
      exact ⟨_, rfl, r⟩
    · rw [decide_eq_false z, valV_neg z]
      exact ih
theorem put_pairT {kvs : List (List Key × V)} {ps : List (D × D)} {v : V} {d : D} (h : PT c G kvs ps) (k : List Key) (r : Rep c G v d) : PT c G (putK kvs k v) (putL ps (.tuple (k.map keyD)) d) := by
  have e : (kvs.any fun kv => decide (kv.1 = k)) = ps.any fun p => PyData.eqv p.1 (.tuple (k.map keyD)) := by
    induction h with
    | nil => rfl
    | cons h1 t ih => rw [List.any_cons, List.any_cons, ih, h1.1, eqv_keys]
  have mp : PT c G (kvs.map fun kv => if kv.1 = k then (kv.1, v) else kv) (ps.map fun p => if PyData.eqv p.1 (.tuple (k.map keyD)) then (p.1, d) else p) := by
    clear e
    induction h with
    | nil => exact .nil
    | @cons kv p kvs ps h1 t ih =>
      rw [List.map_cons, List.map_cons]
      refine .cons ?_ ih
      rw [h1.1, eqv_keys]
      by_cases z : kv.1 = k
      · rw [if_pos z, if_pos (decide_eq_true z)]
        exact ⟨rfl, r⟩
      · rw [if_neg z, if_neg (by rw [decide_eq_false z]; exact Bool.false_ne_true)]
        exact h1
  have ap : ∀ {l1 : List (List Key × V)} {l2 : List (D × D)}, PT c G l1 l2 → PT c G (l1 ++ [(k, v)]) (l2 ++ [(.tuple (k.map keyD), d)]) := by
    intro l1 l2 h
    induction h with
    | nil => exact .cons ⟨rfl, r⟩ .nil
    | cons h1 t ih => exact .cons h1 ih
  unfold putK putL
  rw [e]
  split
  · exact mp
  · exact ap h
theorem repA_intsV {xs : List V} {k : List Int} (h : RepA c G xs (k.map PyData.int)) : xs = k.map V.int := by
  have : ∀ {xs : List V} {ds : List D} {k : List Int}, RepA c G xs ds → ds = k.map PyData.int → xs = k.map V.int := by
    intro xs ds k h
    induction k generalizing xs ds with
    | nil => intro e; subst e; cases h; rfl
    | cons i k ih =>
      intro e
      subst e
      cases h with
      | cons h1 t =>
        cases h1
        rw [ih t rfl]
        rfl
  exact this h rfl
/-- a key in hand: a tuple of the heap -/
theorem orep_tkey {z : Bool} {x : V} {d : D} {ks : List Int} (hc : TKc c z) (ex : Ex G H) (h : ORep c G H x d) (hk : tkey z d = some ks) : ∃ b, x = .ref b ∧ H b = some (.tup ((kT ks).map kV)) := by
  have e := tkey_tup hk
  subst e
  rcases h with h | ⟨h, _⟩
  · cases h with
    | tup h1 h2 =>
      rw [repA_intsV h2] at h1
      exact ⟨_, rfl, by rw [kT_V]; exact ex _ _ h1⟩
    | ktup h1 h2 h3 =>
      rw [hc _ _ hk] at h3
      cases h3
  · cases h
theorem orep_tdict {x : V} {d : D} {qs : List (D × D)} (h : ORep c G H x d) (hd : tdict d = some qs) : ∃ a kvs, x = .ref a ∧ H a = some (.dT kvs) ∧ PT c G kvs qs := by
  have e := tdict_some hd
  subst e
  obtain ⟨a, o, rfl, h1, h2⟩ := orep_dict h fun ds e => by cases e
  cases o with
  | dT kvs =>
    obtain ⟨qs', e, h3⟩ := (show ∃ qs', (PyData.none, PyData.none) :: qs = (PyData.none, PyData.none) :: qs' ∧ PT c G kvs qs' from h2)
    cases e
    exact ⟨a, kvs, rfl, h1, h3⟩
  | dK kvs =>
    have h2 : Paired (fun (kv : Key × V) (p : D × D) => p.1 = keyD kv.1 ∧ Rep c G kv.2 p.2) kvs ((.none, .none) :: qs) := h2
    cases h2 with
    | @cons kv _ _ _ h3 _ =>
      have h4 : PyData.none = keyD kv.1 := h3.1
      cases hk : kv.1 <;> (rw [hk] at h4; cases h4)
  | _ => exact (show False from h2).elim
end
section
variable {X : Cx} {c : Kc} {W : WX} {n : Nat} {md : Bool} {e f a b : Expr} {m ma mb mc me mf : M Opd} {pos : Pos} {z : Bool}
/-- {} -/
def newT : M Opd := ret (.val (.dict [(.none, .none)]))
def newK : M Opd := ret (.val (.dict []))
theorem n_newT : EN X c W n (.Dict [] [] pos) newT := fun k => peMono pe_dnewT fun σ H Q ⟨F, ρ, G, R, p⟩ => fun q hq =>
  (show Pst c F W σ G (.ok (Opd.val (.dict [(.none, .none)])) ρ) _ from p) _ _ (Ex.refl G) (R.hid (o := .dT []) hq (fun _ z => nomatch z)) _ q rfl (R.fresh hq (show OD c G (.dT []) (.dict [(.none, .none)]) from ⟨[], rfl, .nil⟩))
theorem n_newK : EN X c W n (.Dict [] [] pos) newK := fun k => peMono pe_dnewK fun σ H Q ⟨F, ρ, G, R, p⟩ => fun q hq =>
  (show Pst c F W σ G (.ok (Opd.val (.dict [])) ρ) _ from p) _ _ (Ex.refl G) (R.hid (o := .dK []) hq (fun _ z => nomatch z)) _ q rfl (R.fresh hq (show OD c G (.dK []) (.dict []) from .nil))
/-- d[k] -/
theorem e_tix (tk : TKc c z) (ha : EE X c W n a ma) (hb : EE X c W n b mb) (hs : NoSl b := by exact fun _ _ => rfl) : EE X c W n (.Subscript a b pos) (e2 (tixD z) ma mb) := fun k =>
  peMono (pe_dget (by have := k.hu; omega) (ha k) (hb k) hs) fun σ H Q ⟨F, ρ, G, R, p⟩ => tE_bind R p fun o ρ1 G1 H1 x e1 R1 r1 p1 => tE_bind R1 p1 fun o2 ρ2 G2 H2 y e2 R2 r2 p2 => by
    obtain ⟨d, q1, p3⟩ := res_ok R2 (r1.mono e2) p2
    obtain ⟨kd, q2, p4⟩ := res_ok R2 r2 p3
    obtain ⟨r, q3, p5⟩ := Pst.lift p4
    unfold tixD at q3
    cases hd : tdict d with
    | none => rw [hd] at q3; cases q3
    | some qs =>
      rw [hd] at q3
      have q3 : (tkey z kd).bind (fun _ => lookD qs kd) = some r := q3
      cases hk : tkey z kd with
      | none => rw [hk] at q3; cases q3
      | some ks =>
        rw [hk] at q3
        have q3 : lookD qs kd = some r := q3
        obtain ⟨a', kvs, rfl, h1, h2⟩ := orep_tdict q1 hd
        obtain ⟨b', rfl, h3⟩ := orep_tkey tk R2.gh q2 hk
        have l := look_pairT h2 (kT ks)
        rw [kT_D, ← tkey_tup hk, q3] at l
        obtain ⟨v, l1, l2⟩ := l
        exact ⟨a', v, rfl, l1 ▸ DGet.t h1 h3, (resK_of R2 p5).1 v l2⟩
/-- d.get(k, x) -/
def tgM (z : Bool) (mo me mf : M Opd) : M Opd := bnd mo fun o => bnd (res o) fun d0 => bnd (lift (tdict d0)) fun _ => bnd me fun p => bnd mf fun q => bnd (res o) fun d => bnd (res p) fun k => bnd (stab q) fun x => bnd (lift (tgetD z d k x)) fun r => ret (.val r)
theorem e_tget {apos cpos : Pos} (tk : TKc c z) (ha : EE X c W n a ma) (he : EE X c W n e me) (hf : EE X c W n f mf) (m2 : M2 X a "get" apos e f cpos := by exact ⟨rfl, rfl, rfl, rfl⟩) : EE X c W n (.Call (.Attribute a "get" apos) [e, f] [] cpos) (tgM z ma me mf) := fun k =>
  peMono (pe_dget2 (by have := k.hu; omega) (ha k) (he k) (hf k) m2) fun σ H Q ⟨F, ρ, G, R, p⟩ => tE_bind R p fun o ρ1 G1 H1 x e1 R1 r1 p1 => by
    obtain ⟨d0, q0, p2⟩ := res_ok R1 r1 p1
    obtain ⟨qs0, hd0, p3⟩ := Pst.lift p2
    obtain ⟨a0, kvs0, rfl, g1, g2⟩ := orep_tdict q0 hd0
    refine ⟨a0, rfl, .inr ⟨kvs0, .inl g1⟩, ?_⟩
    refine tE_bind R1 p3 fun o2 ρ2 G2 H2 y e2 R2 r2 p4 => ?_
    refine tE_bind R2 p4 fun o3 ρ3 G3 H3 w e3 R3 r3 p5 => ?_
    obtain ⟨d, q1, p6⟩ := res_ok R3 (r1.mono (e2.trans e3)) p5
    obtain ⟨kd, q2, p7⟩ := res_ok R3 (r2.mono e3) p6
    obtain ⟨xd, q3, p8⟩ := stab_ok (H := H3) r3 p7
    obtain ⟨r, q4, p9⟩ := Pst.lift p8
    unfold tgetD at q4
    cases hd : tdict d with
    | none => rw [hd] at q4; cases q4
    | some qs =>
      rw [hd] at q4
      have q4 : (tkey z kd).bind (fun _ => some ((lookD qs kd).getD xd)) = some r := q4
      cases hk : tkey z kd with
      | none => rw [hk] at q4; cases q4
      | some ks =>
        rw [hk] at q4
        have q4 : some ((lookD qs kd).getD xd) = some r := q4
        cases q4
        obtain ⟨a', kvs, ea, h1, h2⟩ := orep_tdict q1 hd
        cases ea
        obtain ⟨b', rfl, h3⟩ := orep_tkey tk R3.gh q2 hk
        have l := look_pairT h2 (kT ks)
        rw [kT_D, ← tkey_tup hk] at l
        refine ⟨valV kvs (kT ks), DGet.t h1 h3, ?_⟩
        cases hl : lookD qs kd with
        | none =>
          rw [hl] at l p9
          rw [show valV kvs (kT ks) = none from l]
          exact (resK_of R3 p9).1 w q3
        | some v =>
          rw [hl] at l p9
          obtain ⟨u, l1, l2⟩ := l
          rw [l1]
          exact (resK_of R3 p9).1 u l2
/-- d[k] = x -/
def setTx (z : Bool) (i : Nat) (mi m : M Opd) : S := exe m fun o => exe (stab o) fun d => exe (chkDc i) fun _ => exe mi fun p => exe (res p) fun k => mutO (tputD z k d) i
theorem s_tput {i : Nat} {x : Str} {p tp : Pos} {ix : Expr} {mi : M Opd} (tk : TKc c z) (he : EE X c W n e m) (hi : EE X c W n ix mi) (hN : X.N[i]? = some x := by rfl) (hv : Vis X.env.scope x := by first | exact Or.inl rfl | exact Or.inr (Or.inl rfl) | exact Or.inr (Or.inr rfl)) (hd : (x == ("__debug__" : Str)) = false := by decide)
    (hcd : (x == ("__classdict__" : Str)) = false := by decide) (hs : swapsWith e (some (.Subscript (.Name x p) ix tp)) pos.line X.env = pure false := by rfl) :
    SS X c W n md (.Assign [.Subscript (.Name x p) ix tp] e pos) (setTx z i mi m) := fun k =>
  psMono (ps_dput (by have := k.hu; omega) (pe_var hN hv hd hcd) (hi k) (he k) hs) fun E σ H ⟨F, ρ, G, R, p⟩ => tE_fl R p fun o ρ1 G1 H1 y e1 R1 r1 p1 => by
    obtain ⟨d, q1, _, p2⟩ := stab_fl r1 p1
    obtain ⟨k0, ps, a, o0, w1, w2, w3, w4, p3⟩ := chkDc_fl R1 p2
    refine ⟨_, w2, ?_⟩
    refine tE_fl R1 p3 fun o2 ρ2 G2 H2 z2 e2 R2 r2 p4 => ?_
    obtain ⟨kd, q2, p5⟩ := res_fl R2 r2 p4
    obtain ⟨k1, d1, d', v1, v2, ⟨o1, v3, v4⟩, v5⟩ := mutO_fl R2 w2 p5
    unfold tputD at v2
    cases hd1 : tdict d1 with
    | none => rw [hd1] at v2; cases v2
    | some qs =>
      rw [hd1] at v2
      have v2 : (tkey z kd).bind (fun _ => if qs.length < 1000000 then some (.dict ((.none, .none) :: putL qs kd d)) else none) = some d' := v2
      cases hk : tkey z kd with
      | none => rw [hk] at v2; cases v2
      | some ks =>
        rw [hk] at v2
        have v2 : (if qs.length < 1000000 then some (PyData.dict ((.none, .none) :: putL qs kd d)) else none) = some d' := v2
        split at v2
        · rename_i hlt
          cases v2
          obtain ⟨b', rfl, h3⟩ := orep_tkey tk R2.gh q2 hk
          have e := tdict_some hd1
          subst e
          obtain ⟨a', kvs, ea, h1, h2⟩ := orep_tdict (x := .ref a) (c := c) (G := G2) (H := H2) (.inr ⟨rfl, a, o1, rfl, v3, v4⟩) hd1
          cases ea
          refine ⟨a, _, rfl, DPut.t h1 h3 ?_, v5 _ ⟨putL qs kd d, rfl, ?_⟩ (fun _ z => nomatch z)⟩
          · rw [Paired.length h2]
            exact Nat.lt_trans hlt (by decide)
          · have := put_pairT h2 (kT ks) (q1.mono e2)
            rw [kT_D, ← tkey_tup hk] at this
            exact this
        · cases v2
theorem keysT : ∀ {c : Kc} {G : Hp} {kvs : List (List Key × V)} {qs : List (D × D)} {ks : List (List Int)}, PT c G kvs qs → intTups (qs.map (·.1)) = some ks → kvs.map (·.1) = ks.map fun k => k.map Sum.inl := by
  intro c G kvs qs ks h
  induction h generalizing ks with
  | nil => intro e; cases e; rfl
  | @cons kv p kvs qs h1 t ih =>
    intro e
    have e : (intTup p.1).bind (fun k => (intTups (qs.map (·.1))).map (k :: ·)) = some ks := e
    cases e1 : intTup p.1 with
    | none => rw [e1] at e; cases e
    | some k =>
      rw [e1] at e
      have e : (intTups (qs.map (·.1))).map (k :: ·) = some ks := e
      cases e2 : intTups (qs.map (·.1)) with
      | none => rw [e2] at e; cases e
      | some ks' =>
        rw [e2] at e
        cases e
        rw [List.map_cons, List.map_cons, ih e2]
        congr 1
        rw [h1.1] at e1
        have e3 : kv.1.map keyD = k.map PyData.int := allInts_map e1
        have inj : ∀ {l : List Key} {k : List Int}, l.map keyD = k.map PyData.int → l = k.map Sum.inl := by
          intro l
          induction l with
          | nil => intro k e; cases k with
            | nil => rfl
            | cons => cases e
          | cons x l ih => intro k e; cases k with
            | nil => cases e
            | cons i k =>
              rw [List.map_cons, List.map_cons] at e
              obtain ⟨g1, g2⟩ := List.cons.inj e
              rw [List.map_cons, ih g2]
              cases x with
              | inl j => cases g1; rfl
              | inr s => cases g1
        exact inj e3
/-- sorted(d) -/
theorem e_tsort {x : Str} {p : Pos} {ms : List (M Opd)} (ha : EA X c W n [a] (ops ms)) (hm : X.mg x = none) (hv : bootBuiltins x = some (.builtin "sorted")) (hg : Gl X x := by rfl) (hn : x ≠ "__name__" := by decide) (hdb : (x == ("__debug__" : Str)) = false := by decide)
    (he : starEach [a] X.env = (false, eval a X.env) :: starEach [] X.env := by rfl) (hpl : (backTo pos (starEach [] X.env)).any (·.1) = false := by rfl) : EE X c W n (.Call (.Name x p) [a] [] pos) (eN tsortN ms) := fun k =>
  peMono (pe_callB (cr_sortDT k.calm) hg hm hv (ha k) hn hdb he hpl) fun σ H Q ⟨F, ρ, G, R, p⟩ => tA_bind R p fun os ρ1 G1 H1 xs e1 R1 r1 p1 => by
    obtain ⟨ds, q1, p2⟩ := ress_ok R1 r1 p1
    obtain ⟨r, q2, p3⟩ := Pst.lift p2
    have hr := resK_of R1 p3
    unfold tsortN at q2
    split at q2
    · rename_i d
      cases q1 with
      | cons g1 g2 =>
        cases g2
        cases hd : tdict d with
        | none => rw [hd] at q2; cases q2
        | some qs =>
          rw [hd] at q2
          have q2 : (intTups (qs.map (·.1))).bind (fun ks => if (ks.all fun k => k.length == (ks.headD []).length) && (decide (1 ≤ (ks.headD []).length) || decide (ks.length ≤ 1)) then some (.list ((sortK ks).map fun k => .tuple (k.map PyData.int))) else none) = some r := q2
          cases hi : intTups (qs.map (·.1)) with
          | none => rw [hi] at q2; cases q2
          | some ks =>
            rw [hi] at q2
            have q2 : (if (ks.all fun k => k.length == (ks.headD []).length) && (decide (1 ≤ (ks.headD []).length) || decide (ks.length ≤ 1)) then some (PyData.list ((sortK ks).map fun k => .tuple (k.map PyData.int))) else none) = some r := q2
            split at q2
            · rename_i hc
              cases q2
              rw [Bool.and_eq_true] at hc
              obtain ⟨hc1, hc2⟩ := hc
              obtain ⟨a', kvs, rfl, h1, h2⟩ := orep_tdict g1 hd
              refine ⟨a', kvs, ks, (ks.headD []).length, rfl, h1, keysT h2 hi, fun k hk => by simpa using List.all_eq_true.mp hc1 k hk, by simpa using hc2, fun q bs hq pb => ?_⟩
              refine hr.2 q (.lst (bs.map V.ref)) hq ?_ (fun u z => nomatch z)
              show RepA c G1 (bs.map V.ref) ((sortK ks).map fun k => .tuple (k.map PyData.int))
              generalize sortK ks = ss at pb
              clear hr
              induction pb with
              | nil => exact .nil
              | @cons b k bs kss hb t ih =>
                rw [List.map_cons, List.map_cons]
                refine .cons ?_ ih
                have hb' := R1.tk b (kT k) (by rw [kT_V]; exact hb)
                rw [kT_V] at hb'
                exact .tup hb' (repA_ints k)
            · cases q2
    · cases q2
end
end Dn


/-! DnJ: list(reversed(x)); max and min of a list; name += e; what is left out of the language. -/
namespace Dn
open PySem PySem.Spec L2 PyProof.Rows
section
open PySem.Calls RT
variable {prog : Program} {w : World} {A : Around} {E : Value → Shared → Prop} {s : Shared}
theorem extend_rev {it l S : Addr} {items : Array Value} {R : Result → Shared → Prop} {res : Value} {c₀ : Nat} (hh : A.handled = none) (hit : s.heap.IsRevIter it l ((items.size : Int) - 1)) (hl : s.heap.IsList l items) (hne : l ≠ it) (hn : items.size ≤ sizeLine) (hSi : S ≠ it) (hSl : S ≠ l)
    (hS : s.heap.get? S = some { cls := .type "list", data := .seq #[] c₀ })
    (hR : ∀ (h' : Heap) (tk : Nat) (acc' : Array Value) (c' : Nat), (∀ b o, b ≠ S → b ≠ it → s.heap.get? b = some o → h'.get? b = some o) → h'.get? S = some { cls := .type "list", dict := none, data := .seq acc' c', slots := #[] } → ItemsOf (fun i v => items[items.size - 1 - i]? = some v) acc' items.size → R (.ok (.ret res)) { s with heap := h', toks := tk }) :
    wpAny (model prog w) A.in1 (Builtin.List.listExtendWith (.ref S) (.ref it) res)
      (fun fin s' => match fin with | .done f => R (.ok f) s' | .again c' => c'.quiet = true ∧ codeAny (model prog w) A c' R s') (fun e s' => R (.error e) s') s := by
  have W := (Walks.listRev (prog := prog) (w := w) (A := A.in1) hh it l hne items).toS
  have hSf : S ∉ [it, l] := by simp only [List.mem_cons, List.not_mem_nil, or_false, not_or]; exact ⟨hSi, hSl⟩
  have hT : s.TypeIs (.ref it) "list_reverseiterator" := hit.typeIs
  have h1 : Builtin.List.listSameRef (.ref S) (.ref it) = false := by simp [Builtin.List.listSameRef, hSi]
  unfold Builtin.List.listExtendWith
  refine wpAny_bind (wpAny_typeOf hT ?_)
  rw [if_neg (by rw [h1]; decide)]
  refine wpAny_bind (wpAny_pyIter_revIter hit ?_)
  refine wpAny_bind (wpAny_holding ?_)
  unfold Builtin.List.listLengthHint
  refine wpAny_bind (wpAny_specialOf hT nolen_lri ?_)
  show wpAny _ A.in1 (specialOf (Value.ref it) (Str.ofString "__length_hint__") >>= _) _ _ _
  refine wpAny_bind (wpAny_specialOf hT hint_lri ?_)
  generalize hid : ("list_reverseiterator.__length_hint__" : String) = id0
  wp_delta
  rw [show splitId id0 = some ("list_reverseiterator", "__length_hint__") from by subst hid; decide +kernel]
  subst hid
  refine wpAny_bind (wpAny_isInstance (b := true) hT (by rw [isSubtype_type]; kernel_rfl) ?_)
  refine wpAny_pure ?_
  rw [if_neg (by decide)]
  have e0 : ((items.size : Nat) : Int) - 1 - ((0 : Nat) : Int) = (items.size : Int) - 1 := by omega
  refine wpAny_pure ⟨plainId_quiet F.plain_extend_loop _, codeAny_extend_loopS W hn _ hSf _ items.size 0 _ _ _ rfl (Nat.zero_le _) ⟨Nat.zero_le _, by rw [e0]; exact hit, hl⟩ hS (ItemsOf.nil _) fun s' acc' c' hm hS' hacc => ?_⟩
  rw [Moved.eq_with hm]
  refine hR s'.heap s'.toks acc' c' (fun b o hb hb2 e => hm.heap b o (fun hmem => ?_) e) hS' hacc
  rcases List.mem_cons.mp hmem with e' | hmem
  · exact hb e'
  · exact hb2 (List.mem_singleton.mp hmem)
theorem call_list_rev {it l : Addr} {items : Array Value} {Q : Value → Shared → Prop} (hh : A.handled = none) (hit : s.heap.IsRevIter it l ((items.size : Int) - 1)) (hl : s.heap.IsList l items) (hne : l ≠ it) (hn : items.size ≤ sizeLine)
    (hQ : ∀ (h' : Heap) (tk : Nat) (acc : Array Value) (c' : Nat), (∀ b o, b ≠ it → s.heap.get? b = some o → h'.get? b = some o) → h'.get? s.heap.objs.size = some { cls := .type "list", dict := none, data := .seq acc c', slots := #[] } → ItemsOf (fun i v => items[items.size - 1 - i]? = some v) acc items.size →
      Q (.ref s.heap.objs.size) { s with heap := h', toks := tk }) :
    wpAny (model prog w) A (call (.type "list") [.ref it]) Q E s := by
  obtain ⟨oi, hoi, _⟩ := id hit
  obtain ⟨ol, hol, _⟩ := id hl
  have hSi : s.heap.objs.size ≠ it := Nat.ne_of_gt (Heap.lt_size hoi)
  have hSl : s.heap.objs.size ≠ l := Nat.ne_of_gt (Heap.lt_size hol)
  refine callType_codes (Q₁ := fun obj s₁ => obj = .ref s.heap.objs.size ∧ s₁ = { s with heap := s.heap.push { cls := .type "list", data := .seq #[] } }) PySem.F.called_list (PySem.F.typeCall_list_1 _) PySem.F.entry_list_init
    (code_list_new _ ⟨rfl, rfl⟩) fun obj s₁ h₁ => ?_
  obtain ⟨rfl, rfl⟩ := h₁
  have hS : (s.heap.push { cls := .type "list", data := .seq #[] }).get? s.heap.objs.size = some { cls := .type "list", data := .seq #[] } := Heap.get?_push_size _ rfl
  refine ⟨⟨_, hS, rfl⟩, PySem.F.args_list_init_2 _ _, ?_⟩
  show wpAny _ _ (do let old ← Builtin.List.listItems (.ref s.heap.objs.size); Builtin.List.listUpdate (.ref s.heap.objs.size) (fun _ => #[]); letGo old.toList.reverse; Builtin.List.listExtendWith (.ref s.heap.objs.size) (.ref it) .none) _ _ _
  refine wpAny_bind ?_
  unfold Builtin.List.listItems
  refine wpAny_bind (wpAny_seqItems hS rfl (wpAny_pure ?_))
  show wpAny _ _ (updateSeq s.heap.objs.size (fun _ => #[]) >>= fun _ => letGo (#[] : Array Value).toList.reverse >>= fun _ => Builtin.List.listExtendWith (.ref s.heap.objs.size) (.ref it) .none) _ _ _
  refine wpAny_bind (wpAny_updateSeq hS rfl ?_)
  have hS₂ := Heap.get?_update_self (Obj.mapSeq (fun _ => (#[] : Array Value))) hS rfl
  have oth : ∀ b o, s.heap.get? b = some o → ((s.heap.push { cls := .type "list", data := .seq #[] }).update s.heap.objs.size (Obj.mapSeq (fun _ => (#[] : Array Value)))).get? b = some o :=
    fun b o e => (Heap.get?_update_other _ _ (Nat.ne_of_gt (Heap.lt_size e))).trans (Heap.get?_push_of_some _ e)
  refine wpAny_bind (wpAny_letGo ?_)
  refine extend_rev (A := A.in1) hh (hit.at fun o e => oth _ _ e) (hl.at fun o e => oth _ _ e) hne hn hSi hSl hS₂ fun h' tk acc' c' hk hS' hacc => ?_
  exact ⟨rfl, hQ h' tk acc' c' (fun b o hb e => hk b o (Nat.ne_of_lt (Heap.lt_size e)) hb (oth b o e)) hS' hacc⟩
end
/-- list(reversed(x)), x a list: a new list -/
def tListRev (K : PySem.W.Frag) (te : TE) : TE := fun σ H Q => te σ H fun v H1 => ∃ (a : Addr) (xs : List V), v = .ref a ∧ SqL K H1 a xs ∧ ∀ q, H1 q = none → Q (.ref q) (upd H1 q (.lst xs.reverse))
section
variable {X : Cx}
theorem pe_listRev {e : Expr} {te : TE} {p p2 pos pos2 : Pos} (hc : X.calm = true) (hg : Gl X "list") (hm : X.mg "list" = none) (hg2 : Gl X "reversed") (hm2 : X.mg "reversed" = none) (he : PE X e te)
    (hs : starEach [e] X.env = (false, eval e X.env) :: starEach [] X.env := by rfl)
    (hs2 : starEach [.Call (.Name "reversed" p2) [e] [] pos2] X.env = (false, eval (.Call (.Name "reversed" p2) [e] [] pos2) X.env) :: starEach [] X.env := by rfl) :
    PE X (.Call (.Name "list" p) [.Call (.Name "reversed" p2) [e] [] pos2] [] pos) (tListRev X.K te) := by
  refine ⟨fun pins s σ H Q I h => ?_⟩
  refine Call_ (ld_blt I hg hm boot_list (PyProof.Rows.callWith_type1 (args_cons (Call_ (ld_blt I hg2 hm2 PyProof.Rows.boot_reversed (PyProof.Rows.callWith_type1 (args_cons (thn (he.run pins s σ H _ I h) fun u s1 ⟨v, H1, I1, r1, q1⟩ => args_nil ?_) hs) hs rfl))) hs2) hs2 rfl))
  obtain ⟨a, xs, ev, hq, q⟩ := q1
  subst ev
  obtain rfl : u = Value.ref a := r1
  obtain ⟨its, rv, p', hz⟩ := I1.list hq
  refine call_reversed_list p'.isList (args_nil ?_)
  have k0 : ∀ b o, s1.heap.get? b = some o → (s1.heap.push (revObj a ((its.toArray.size : Int) - 1))).get? b = some o := fun b o e => Heap.get?_push_of_some _ e
  have I2 : Inv X pins σ H1 { s1 with heap := s1.heap.push (revObj a ((its.toArray.size : Int) - 1)) } := I1.kept (t' := s1.toks) k0
  obtain ⟨f0, f1, f2, f3, f4, f5⟩ := I1.fpOk (H' := H1) (b := s1.heap.objs.size) (Nat.le_refl _) (I1.hok.fresh (Nat.le_refl _))
  have hl := p'.isList
  obtain ⟨ol, hol, _⟩ := id hl
  have hne : a ≠ s1.heap.objs.size := Nat.ne_of_lt (Heap.lt_size hol)
  have hn : its.toArray.size ≤ sizeLine := by rw [List.size_toArray, ← rv.length]; exact hz
  refine call_list_rev (s := { s1 with heap := s1.heap.push (revObj a ((its.toArray.size : Int) - 1)) }) (I1.ok.hd hc) ⟨_, Heap.get?_push_size _ rfl, rfl, rfl⟩ (hl.push _) hne hn fun h' tk acc c' hk hD hi => ?_
  have new : ObjOk X.prog X.w (upd H1 (s1.heap.push (revObj a ((its.toArray.size : Int) - 1))).objs.size (.lst xs.reverse)) h' (s1.heap.push (revObj a ((its.toArray.size : Int) - 1))).objs.size (.lst xs.reverse) :=
    ⟨by rw [List.length_reverse]; exact hz, acc.toList, c', RT.vals_rev rv hi, by rw [Array.toArray_toList]; exact hD⟩
  have I3 := I2.turnedNew (t' := tk) (ch := [s1.heap.objs.size]) (fun b o hb e => hk b o (fun z => hb (by simp [z])) e) (fun b hb => by
    rw [List.mem_singleton.mp hb]
    exact I1.fpOk (H' := H1) (Nat.le_refl _) (I1.hok.fresh (Nat.le_refl _))) (Nat.le_refl _) new
  exact ⟨.ref (s1.heap.push (revObj a ((its.toArray.size : Int) - 1))).objs.size, _, I3, rfl, q _ (I2.hok.fresh (Nat.le_refl _))⟩
end
/-! ### in the language -/
section
variable {X : Cx} {c : Kc} {W : WX} {n : Nat} {md : Bool} {e f a b : Expr} {m ma mb mc me mf : M Opd} {pos : Pos}
def lrevD : D → Option D
  | .list xs => some (.list xs.reverse)
  | _ => none
theorem n_lrev {p p2 pos2 : Pos} (ha : EE X c W n a m) (hm : X.mg "list" = none) (hm2 : X.mg "reversed" = none) (hg : Gl X "list" := by rfl) (hg2 : Gl X "reversed" := by rfl) (hs : starEach [a] X.env = (false, eval a X.env) :: starEach [] X.env := by rfl)
    (hs2 : starEach [.Call (.Name "reversed" p2) [a] [] pos2] X.env = (false, eval (.Call (.Name "reversed" p2) [a] [] pos2) X.env) :: starEach [] X.env := by rfl) : EN X c W n (.Call (.Name "list" p) [.Call (.Name "reversed" p2) [a] [] pos2] [] pos) (e1 lrevD m) := fun k =>
  peMono (pe_listRev k.calm hg hm hg2 hm2 (ha k) hs hs2) fun σ H Q ⟨F, ρ, G, R, p⟩ => tE_bind R p fun o ρ1 G1 H1 x e1 R1 r1 p1 => by
    obtain ⟨d, q1, p3⟩ := res_ok R1 r1 p1
    obtain ⟨r, q3, p5⟩ := Pst.lift p3
    have hr := resN_of R1 p5
    cases d with
    | list ds =>
      cases q3
      obtain ⟨a', vs, rfl, w1, w2⟩ := orep_lst k.hK R1.gh q1
      exact ⟨a', vs, rfl, w1, fun q hq => hr q _ hq (show OD c G1 (.lst _) (.list _) from RepA.rev w2) (fun _ z => nomatch z)⟩
    | _ => cases q3
theorem lrev_is {m : M Opd} : ∀ ρ o ρ', e1 lrevD m ρ = .ok o ρ' → ∃ ds, o = .val (.list ds) := fun ρ o ρ' h =>
  bnd_val (P := fun o => ∃ ds, o = Opd.val (.list ds)) h fun o ρ1 h => bnd_val (P := fun o => ∃ ds, o = Opd.val (.list ds)) h fun d ρ2 h => by
    cases d with
    | list ds => cases h; exact ⟨_, rfl⟩
    | _ => cases h
theorem e_lrev {p p2 pos2 : Pos} (ha : EE X c W n a m) (hm : X.mg "list" = none) (hm2 : X.mg "reversed" = none) (hg : Gl X "list" := by rfl) (hg2 : Gl X "reversed" := by rfl) (hs : starEach [a] X.env = (false, eval a X.env) :: starEach [] X.env := by rfl)
    (hs2 : starEach [.Call (.Name "reversed" p2) [a] [] pos2] X.env = (false, eval (.Call (.Name "reversed" p2) [a] [] pos2) X.env) :: starEach [] X.env := by rfl) : EE X c W n (.Call (.Name "list" p) [.Call (.Name "reversed" p2) [a] [] pos2] [] pos) (e1 lrevD m) := e_n (n_lrev ha hm hm2 hg hg2 hs hs2) lrev_is
/-! ### max and min of a list of numbers -/
def maxL : List Int → Int → Int
  | [], m => m
  | x :: xs, m => maxL xs (max m x)
def minL : List Int → Int → Int
  | [], m => m
  | x :: xs, m => minL xs (min m x)
theorem maxL_mem : ∀ (xs : List Int) (m : Int), (maxL xs m = m ∨ maxL xs m ∈ xs) ∧ m ≤ maxL xs m ∧ ∀ y ∈ xs, y ≤ maxL xs m
  | [], m => ⟨.inl rfl, Int.le_refl _, fun y h => by cases h⟩
  | x :: xs, m => by
    obtain ⟨h1, h2, h3⟩ := maxL_mem xs (max m x)
    show (maxL xs (max m x) = m ∨ maxL xs (max m x) ∈ x :: xs) ∧ m ≤ maxL xs (max m x) ∧ ∀ y ∈ x :: xs, y ≤ maxL xs (max m x)
    refine ⟨?_, by omega, fun y hy => ?_⟩
    · rcases h1 with h | h
      · by_cases e : m ≤ x
        · right; rw [h, Int.max_eq_right e]; simp
        · left; rw [h]; omega
      · right; simp [h]
    · rcases List.mem_cons.mp hy with rfl | hy
      · omega
      · exact h3 y hy
theorem minL_mem : ∀ (xs : List Int) (m : Int), (minL xs m = m ∨ minL xs m ∈ xs) ∧ minL xs m ≤ m ∧ ∀ y ∈ xs, minL xs m ≤ y
  | [], m => ⟨.inl rfl, Int.le_refl _, fun y h => by cases h⟩
  | x :: xs, m => by
    obtain ⟨h1, h2, h3⟩ := minL_mem xs (min m x)
    show (minL xs (min m x) = m ∨ minL xs (min m x) ∈ x :: xs) ∧ minL xs (min m x) ≤ m ∧ ∀ y ∈ x :: xs, minL xs (min m x) ≤ y
    refine ⟨?_, by omega, fun y hy => ?_⟩
    · rcases h1 with h | h
      · by_cases e : m ≤ x
        · left; rw [h]; omega
        · right; rw [h, Int.min_eq_right (by omega)]; simp
      · right; simp [h]
    · rcases List.mem_cons.mp hy with rfl | hy
      · omega
      · exact h3 y hy
def maxLD : List D → Option D
  | [.list ds] => match allInts ds with
    | some (x :: xs) => some (.int (maxL xs x))
    | _ => none
  | _ => none
def minLD : List D → Option D
  | [.list ds] => match allInts ds with
    | some (x :: xs) => some (.int (minL xs x))
    | _ => none
  | _ => none
theorem call_maxLD (hc : X.calm = true) (hK : c.K = X.K) : CallR X (.builtin "max") (rDN c maxLD) := by
  intro pins s σ H xs us Q I rx h
  obtain ⟨G, ds, r, ex, hd, hg, hr⟩ := h
  unfold maxLD at hg
  split at hg
  · rename_i ds1
    split at hg
    · rename_i x ys he
      cases hg
      cases hd with
      | cons h1 h2 =>
        cases h2
        obtain ⟨p, vs, e1, q1, r1⟩ := orep_lst hK ex h1
        subst e1
        have ev := repA_ints' r1 he
        subst ev
        refine cr_max hc pins s σ H _ us Q I rx ⟨p, x :: ys, rfl, q1, by simp, fun m hm hy => ?_⟩
        obtain ⟨a1, a2, a3⟩ := maxL_mem ys x
        have : m = maxL ys x := by
          refine Int.le_antisymm ?_ ?_
          · rcases List.mem_cons.mp hm with rfl | hm
            · exact a2
            · exact a3 m hm
          · rcases a1 with e | e
            · rw [e]; exact hy x (by simp)
            · exact hy _ (by simp [e])
        rw [this]
        exact hr.1 _ (.int _)
    · cases hg
  · cases hg
theorem call_minLD (hc : X.calm = true) (hK : c.K = X.K) : CallR X (.builtin "min") (rDN c minLD) := by
  intro pins s σ H xs us Q I rx h
  obtain ⟨G, ds, r, ex, hd, hg, hr⟩ := h
  unfold minLD at hg
  split at hg
  · rename_i ds1
    split at hg
    · rename_i x ys he
      cases hg
      cases hd with
      | cons h1 h2 =>
        cases h2
        obtain ⟨p, vs, e1, q1, r1⟩ := orep_lst hK ex h1
        subst e1
        have ev := repA_ints' r1 he
        subst ev
        refine cr_min hc pins s σ H _ us Q I rx ⟨p, x :: ys, rfl, q1, by simp, fun m hm hy => ?_⟩
        obtain ⟨a1, a2, a3⟩ := minL_mem ys x
        have : m = minL ys x := by
          refine Int.le_antisymm ?_ ?_
          · rcases a1 with e | e
            · rw [e]; exact hy x (by simp)
            · exact hy _ (by simp [e])
          · rcases List.mem_cons.mp hm with rfl | hm
            · exact a2
            · exact a3 m hm
        rw [this]
        exact hr.1 _ (.int _)
    · cases hg
  · cases hg
/-! ### name += e -/
def addI : D → D → Option D
  | .int i, .int j => some (.int (i + j))
  | _, _ => none
theorem next_fl {α β : Type} (r : Dn.R α) (f : α → M β) (g : β → S) : (r.next f).fl g = r.fl fun a ρ => (f a ρ).fl g := by cases r <;> rfl
theorem s_aug {i : Nat} {x : Str} {pos' : Pos} (he : EE X c W n e m) (hi : X.N[i]? = some x := by rfl) (hx : Loc X.env.scope x := by first | exact Or.inl rfl | exact Or.inr rfl)
    (hf : X.fn x = true ∨ X.env.scope.names.lookup x = some .local := by first | exact .inl rfl | exact .inr rfl) : SS X c W n md (.AugAssign (.Name x pos') .Add e pos) (setV i (e2 addI (v i) m)) := fun k =>
  psMono (ps_aug k.nd hi hx (he k) (op := .Add) (ti := rI0 fun i j => .int (i + j)) iop_add hf) fun E σ H ⟨F, ρ, G, R, p⟩ => by
    cases hv : readVal i ρ with
    | none =>
      have e0 : v i ρ = .stuck := by unfold v; rw [hv]; rfl
      have p : PstS c F md W E G (((v i ρ).next fun o => bnd m fun p => bnd (res o) fun d => bnd (res p) fun e => bnd (lift (addI d e)) fun r => ret (.val r)).fl fun o => exe (stab o) fun d => fun ρ => .next (ρ.set i (.val d))) := p
      rw [e0] at p
      exact (show False from p).elim
    | some d =>
      have e0 : v i ρ = .ok (.val d) ρ := by unfold v; rw [hv]; rfl
      have p : PstS c F md W E G (((v i ρ).next fun o => bnd m fun p => bnd (res o) fun d => bnd (res p) fun e => bnd (lift (addI d e)) fun r => ret (.val r)).fl fun o => exe (stab o) fun d => fun ρ => .next (ρ.set i (.val d))) := p
      rw [e0, next_fl] at p
      have p : PstS c F md W E G (((m ρ).next fun p => bnd (res (.val d)) fun d => bnd (res p) fun e => bnd (lift (addI d e)) fun r => ret (.val r)).fl fun o => exe (stab o) fun d => fun ρ => .next (ρ.set i (.val d))) := p
      rw [next_fl] at p
      have hs : ρ[i]? = some (.val d) := by
        unfold readVal at hv
        split at hv
        · rename_i d' h; cases hv; exact h
        · cases hv
      obtain ⟨x0, hx0, rx0⟩ := R.slot_val hs
      refine ⟨x0, hx0, F, ρ, G, R, Pst.flE p fun o ρ1 G1 H1 e1 R1 p1 y r1 => ?_⟩
      have p1 : PstS c F md W E G1 (((res o ρ1).next fun e => bnd (lift (addI d e)) fun r => ret (.val r)).fl fun o => exe (stab o) fun d => fun ρ => .next (ρ.set i (.val d))) := p1
      rw [next_fl] at p1
      obtain ⟨ed, q1, p2⟩ := res_fl R1 r1 (show PstS c F md W E G1 (exe (res o) (fun e ρ => ((bnd (lift (addI d e)) fun r => ret (.val r)) ρ).fl fun o => exe (stab o) fun d => fun ρ => .next (ρ.set i (.val d))) ρ1) from p1)
      cases ha : addI d ed with
      | none =>
        have p2 : PstS c F md W E G1 (((lift (addI d ed) ρ1).next fun r => ret (.val r)).fl fun o => exe (stab o) fun d => fun ρ => .next (ρ.set i (.val d))) := p2
        rw [ha] at p2
        exact (show False from p2).elim
      | some r =>
        have p2 : PstS c F md W E G1 (((lift (addI d ed) ρ1).next fun r => ret (.val r)).fl fun o => exe (stab o) fun d => fun ρ => .next (ρ.set i (.val d))) := p2
        rw [ha] at p2
        have p2 : ∀ σ' G' H', Ex G1 G' → Rel c F (ρ1.set i (.val r)) σ' G' H' → E.nx σ' H' := p2
        cases d with
        | int a0 =>
          cases ed with
          | int b0 =>
            cases ha
            cases rx0
            rw [orep_int q1]
            exact ⟨a0, b0, rfl, rfl, p2 _ G1 H1 (Ex.refl G1) (R1.setv (.int _))⟩
          | _ => cases ha
        | _ => cases ha
/-! ### what is left out -/
def stuckS : S := fun _ => .stuck
def stuckM : M Opd := fun _ => .stuck
theorem s_stuck {st : Stmt} : SS X c W n md st stuckS := fun k => ⟨fun pins s σ H E I ⟨F, ρ, G, R, p⟩ => (show False from p).elim⟩
theorem e_stuck : EE X c W n e stuckM := fun k => ⟨fun pins s σ H Q I ⟨F, ρ, G, R, p⟩ => (show False from p).elim⟩
theorem n_stuck : EN X c W n e stuckM := fun k => ⟨fun pins s σ H Q I ⟨F, ρ, G, R, p⟩ => (show False from p).elim⟩
end
end Dn


/-! DnK: tuple(list) of which is known that it has no names of its own; dict(such a tuple of pairs). -/
namespace Dn
open PySem PySem.Spec L2 PyProof.Rows
section
variable {prog : Program} {w : World} {A : Around} {E : Value → Shared → Prop}
theorem tuple_keys_none : typeLookup (.type "tuple") "keys" = pure none := am_miss_of_fast (by first | decide +kernel | rfl)
theorem missT {s : Shared} {a : Addr} {o : Obj} {xs : Array Value} {k : Nat} {Q : Option Value → Shared → Prop} (hx : s.heap.get? a = some o) (hc : o.cls = .type "tuple") (hdat : o.data = .seq xs k) (hd : o.dict = none) (hA : A.handled = none)
    (h : ∀ h' tk, (∀ b ob, s.heap.get? b = some ob → h'.get? b = some ob) → Q none { s with heap := h', toks := tk }) : wpAny (model prog w) A (getAttr? (.ref a) "keys") Q E s := by
  obtain ⟨c, dct, dat, sl⟩ := o
  simp only at hc hdat hd
  subst hc hdat hd
  obtain ⟨hp, g, d, tk, os⟩ := s
  have hT : ∀ tk', (⟨hp, g, d, tk', os⟩ : Shared).TypeIs (.ref a) "tuple" := fun _ => ⟨_, hx, rfl⟩
  have hmiss := tuple_keys_none
  have hname : (["__module__", "__name__", "__qualname__", "__doc__", "__annotations__"] : List Str).contains "keys" = false := by decide +kernel
  have hsz : ("keys" : Str).length + 100 ≤ sizeLine := by first | size_fits | decide +kernel
  have f1 := sub_AttributeError
  have f3 := PySem.F.slot_tuple_getattribute.lookup
  have f4 := PySem.F.slot_tuple_getattribute.bind (.ref a)
  have f5 := am_tuple_getattr_none
  unfold getAttr? getAttrBy? getAttrBy
  repeat (any_goals (first | assumption | exact hT _ | ((with_reducible show wpAny _ _ (call (Value.builtin "tuple.__getattribute__") _ _) _ _ _); refine call_meets PySem.F.slot_tuple_getattribute (hT _) am_entry_tuple_getattribute (PySem.F.args_tuple_getattribute_2 _ _) (meets_getattribute_miss_tuple a xs k sl "keys" _ hmiss hname hsz) ⟨hx, hA, fun h' tk' e hx' => ?_⟩) | wp_step))
  obtain ⟨t', u', he⟩ := hx'.there
  show wpAny _ _ (getattributeRaised _ _ _ _ _ _ _) _ _ _
  unfold getattributeRaised
  repeat (any_goals (first | assumption | wp_step))
  all_goals first | exact h _ _ hx'.keeps | (dsimp only; repeat (any_goals (first | assumption | exact h _ _ hx'.keeps | wp_step)))
end
/-- a tuple of a key and a value -/
def PrT (K : PySem.W.Frag) (H : Hp) (x : V) (kv : List Key × V) : Prop := ∃ p b, x = V.ref p ∧ SqT K H p [.ref b, kv.2] ∧ H b = some (.tup (kv.1.map kV))
def foldT (acc kvs : List (List Key × V)) : List (List Key × V) := kvs.foldl (fun a kv => putK a kv.1 kv.2) acc
theorem upd_upd {H : Hp} {S : Addr} {a b : HO} : upd (upd H S a) S b = upd H S b := by
  funext x
  by_cases h : x = S
  · subst h; rw [upd_same, upd_same]
  · rw [upd_ne h, upd_ne h, upd_ne h]
theorem updId {H : Hp} {S : Addr} {a : HO} (h : H S = some a) : upd H S a = H := by
  funext x
  by_cases e : x = S
  · subst e; rw [upd_same, h]
  · rw [upd_ne e]
theorem sqT_upd {K : PySem.W.Frag} {H : Hp} {S l : Addr} {xs : List V} {kvs : List (List Key × V)} {o : HO} (hS : H S = some (.dT kvs)) (h : SqT K H l xs) : SqT K (upd H S o) l xs := by
  rcases h with (h | ⟨ob, h⟩) | h
  · refine .inl (.inl ?_)
    rw [upd_ne (fun e => by subst e; rw [hS] at h; cases h)]
    exact h
  · refine .inl (.inr ⟨ob, ?_⟩)
    rw [upd_ne (fun e => by subst e; rw [hS] at h; cases h)]
    exact h
  · exact .inr h
theorem prT_upd {K : PySem.W.Frag} {H : Hp} {S : Addr} {kvs : List (List Key × V)} {o : HO} (hS : H S = some (.dT kvs)) {x : V} {kv : List Key × V} (h : PrT K H x kv) : PrT K (upd H S o) x kv := by
  obtain ⟨p, b, e, h1, h2⟩ := h
  refine ⟨p, b, e, sqT_upd hS h1, ?_⟩
  rw [upd_ne (fun e => by subst e; rw [hS] at h2; cases h2)]
  exact h2
theorem pairedPr_upd {K : PySem.W.Frag} {H : Hp} {S : Addr} {kvs : List (List Key × V)} {o : HO} (hS : H S = some (.dT kvs)) {xs : List V} {ps : List (List Key × V)} (h : Paired (PrT K H) xs ps) : Paired (PrT K (upd H S o)) xs ps := by
  induction h with
  | nil => exact .nil
  | cons h1 t ih => exact .cons (prT_upd hS h1) ih
theorem pairedPr_ex {K : PySem.W.Frag} {H H' : Hp} (e : Ex H H') {xs : List V} {ps : List (List Key × V)} (h : Paired (PrT K H) xs ps) : Paired (PrT K H') xs ps := by
  induction h with
  | nil => exact .nil
  | cons h1 t ih =>
    obtain ⟨p, b, ee, g1, g2⟩ := h1
    exact .cons ⟨p, b, ee, sqT_ex e g1, e _ _ g2⟩ ih
section
variable {X : Cx} {pins : List (Addr × Obj)} {σ : L2.St} {A : Around}
theorem upd_loopT {R : Result → Shared → Prop} {S It l : Addr} {xs : List V} {res : Value} (hh : A.handled = none) (hu : A.units + 1 < cLine) :
    ∀ (rest : List (List Key × V)) (i : Nat) (acc : List (List Key × V)) (ix : Int) (t : Tok) (H : Hp) (s : Shared), Inv X pins σ H s → FpOk X pins H It → H S = some (.dT acc) → SqT X.K H l xs → Paired (PrT X.K H) (xs.drop i) rest → acc.length + rest.length ≤ sizeLine →
      s.heap.IsTupleIter It l i → (∀ s', Inv X pins σ (upd H S (.dT (foldT acc rest))) s' → R (.ok (.ret res)) s') →
      codeAny (model X.prog X.w) A (.builtin "dict.update.loop" ⟨[.ref S, .ref It, .int ix t, res], []⟩) R s
  | [], i, acc, ix, t, H, s, I, hf, hS, hl, hp, hln, hit, hR => by
    obtain ⟨its, rv, p, hz⟩ := I.tuple hl
    have hle : xs.length ≤ i := by
      have := Paired.length hp
      rw [List.length_drop] at this
      simp at this
      omega
    refine codeAny_builtin ud_entry ?_
    rw [Around.under_plainId ud_plain _]
    show wpAny _ A.in1 (pyNext (.ref It) >>= _) _ _ s
    refine wpAny_bind (wpAny_pyNext_tuple_end (A := A.in1) hh hit (show s.heap.IsTuple l its.toArray from p) (by
      have := rv.length
      exact Array.getElem?_eq_none (by rw [List.size_toArray]; omega)) fun h' he => ?_)
    show wpAny _ A.in1 (Builtin.Dict.addKeywords S [] >>= _) _ _ _
    refine wpAny_bind (wpAny_pure (wpAny_pure ?_))
    have I1 : Inv X pins σ H { s with heap := h', toks := s.toks } := I.turnedL (ch := [It]) (fun b o hb e => he b o (fun z => hb (by simp [z])) e) (fun b hb => by
      have : b = It := by simpa using hb
      subst this; exact hf)
    refine hR _ ?_
    rw [show foldT acc [] = acc from rfl, updId hS]
    exact I1
  | q :: rest, i, acc, ix, t, H, s, I, hf, hS, hl, hp, hln, hit, hR => by
    obtain ⟨its, rv, p, hz⟩ := I.tuple hl
    rw [List.length_cons] at hln
    have hlt : i < xs.length := by
      have := Paired.length hp
      rw [List.length_drop] at this
      simp at this
      omega
    rw [List.drop_eq_getElem_cons hlt] at hp
    cases hp with
    | cons h1 hp =>
    obtain ⟨pr, b, ex, hpr, hb⟩ := h1
    obtain ⟨u, hu1, ru⟩ := rv.get (List.getElem?_eq_getElem hlt)
    rw [ex] at ru
    cases ru
    refine codeAny_builtin ud_entry ?_
    rw [Around.under_plainId ud_plain _]
    show wpAny _ A.in1 (pyNext (.ref It) >>= _) _ _ s
    refine wpAny_bind (wpAny_pyNext_tuple_item (x := .ref pr) hit (show s.heap.IsTuple l its.toArray from p) (by simpa using hu1) fun h1 hit1 hs1 => ?_)
    have I1 : Inv X pins σ H { s with heap := h1, toks := s.toks } := I.turnedL (ch := [It]) (fun b o hb e => (hs1.2 b (fun z => hb (by simp [z]))).trans e) (fun b hb => by
      have : b = It := by simpa using hb
      subst this; exact hf)
    obtain ⟨its2, rv2, p2, _⟩ := I1.tuple hpr
    obtain ⟨v1, v2, e2, g1, g2⟩ := vals2 rv2
    subst e2
    cases (show v1 = Value.ref b from g1)
    obtain ⟨o, ho, hc, n, hd⟩ := id p2
    show wpAny _ A.in1 (holding [Value.ref pr] _ >>= _) _ _ _
    refine wpAny_bind (wpAny_holding ?_)
    refine wpAny_bind (wpAny_tryCatch ?_)
    unfold Builtin.Dict.pairItems
    refine wpAny_bind (wpAny_typeOf (T := "tuple") ⟨o, ho, hc⟩ ?_)
    rw [if_pos (by first | decide | rfl | simp)]
    refine wpAny_bind (wpAny_seqItems ho hd (wpAny_pure ?_))
    show wpAny _ A.in1 (holding [Value.ref b, v2] (dictSet S (.ref b) v2)) _ _ _
    obtain ⟨hz2, hd2, ks, rel, dd⟩ := dt_of I1.hok hS
    have hlk : ks.length = acc.length := (Paired.length rel).symm
    refine wpAny_holding (wpAny_dictSet_heap (knd := tupleKind (mixKind X.prog X.w)) (hsz := by omega) (tupleKind_room_in1 hu) (key_of I1.hok hb) dd fun h2 dd' hs2 => ?_)
    have hl2 := length_putK acc q.1 q.2
    have hl3 : (putK acc q.1 q.2).length ≤ sizeLine := by omega
    have I2 : Inv X pins σ (upd H S (.dT (putK acc q.1 q.2))) { s with heap := h2, toks := s.toks + (tupleKind (mixKind X.prog X.w)).draws q.1 } := by
      obtain ⟨o', es, ep, ho', k2, k3, k4, _, k5⟩ := dd'
      refine d_write (s := { s with heap := h1, toks := s.toks }) (t' := s.toks + (tupleKind (mixKind X.prog X.w)).draws q.1) I1 (by rw [hS]; exact True.intro) hs2 ⟨o', ho'⟩ ⟨hl3, hd2, _, (rel.put q.1 hb g2).keeps fun c ys ec => ?_, o', es, ep, ho', k2, k3, k4, k5⟩
      rw [upd_ne (fun e => by subst e; rw [hS] at ec; cases ec)]
      exact ec
    have hIS : It ≠ S := fun e => by
      have := hf.1
      rw [e, hS] at this
      cases this
    refine wpAny_pure ⟨plainId_quiet ud_plain _, upd_loopT hh hu rest (i + 1) (putK acc q.1 q.2) (ix + 1) 0 _ _ I2 ⟨by rw [upd_ne hIS]; exact hf.1, hf.2⟩ upd_same (sqT_upd hS hl) (pairedPr_upd hS hp) (by omega) ?_ fun s' I' => hR s' ?_⟩
    · exact hit1.at fun o e => (hs2.2 It hIS).trans e
    · rw [upd_upd] at I'
      exact I'
end
section
variable {X : Cx}
/-- dict(t), t a tuple of pairs of a key and a value -/
theorem call_dictT (hc : X.calm = true) (hu : X.A.units + 9 < cLine) : CallR X (.type "dict") (fun xs H Q => ∃ (a : Addr) (ys : List V) (kvs : List (List Key × V)), xs = [.ref a] ∧ FzT H a ys ∧ Paired (PrT X.K H) ys kvs ∧ ∀ p, H p = none → Q (.ref p) (upd H p (.dT (foldT [] kvs)))) := by
  intro pins s σ H xs us Q I r h
  obtain ⟨a, ys, kvs, rfl, hfz, hp, q⟩ := h
  obtain ⟨u, rfl, rx⟩ := vals1 r
  cases rx
  have hsq : SqT X.K H a ys := hfz.sq
  obtain ⟨ob, ha, hcl, hdn⟩ := hfz
  obtain ⟨hob, hz, its, rv, o', ho', _, n, hdat⟩ := (show ObjOk X.prog X.w H s.heap a (.frz ob (.tup ys)) from I.hok a _ ha)
  have eo : ob = o' := Option.some.inj (hob.symm.trans ho')
  subst eo
  have hlt : a < s.heap.objs.size := Heap.lt_size hob
  have I1 : Inv X pins σ (upd H s.heap.objs.size (.dT [])) { s with heap := s.heap.push { cls := .type "dict", data := .dict #[] } } :=
    I.laid (t' := s.toks) (fun b u e => Heap.get?_push_of_some _ e) (Nat.le_refl _) (dt_empty s.heap I.big)
  refine callType_codes (Q₁ := fun obj s₁ => obj = .ref s.heap.objs.size ∧ s₁ = { s with heap := s.heap.push { cls := .type "dict", data := .dict #[] } }) PySem.F.kt_called_dict (PySem.F.kt_typeCall_dict_1 _) PySem.F.entry_dict_init (kt_code_dict_new _ ⟨rfl, rfl⟩) ?_
  rintro obj s₁ ⟨rfl, rfl⟩
  have hnew : (s.heap.push { cls := .type "dict", data := .dict #[] }).DictOf (mixKind X.prog X.w) s.heap.objs.size [] := Heap.DictOf.new s.heap
  have k0 : ∀ b o, s.heap.get? b = some o → (s.heap.push { cls := .type "dict", data := .dict #[] }).get? b = some o := fun b o e => Heap.get?_push_of_some _ e
  refine ⟨hnew.typeIs, PySem.F.args_dict_init_2 _ _, ?_⟩
  unfold Builtin.«dict.__init__»
  refine wpAny_bind ?_
  unfold Builtin.Dict.selfAndRest
  refine wpAny_bind (wpAny_notOrdered_dict hnew.typeIs ?_)
  show wpAny _ _ (pure (s.heap.objs.size, [Value.ref a])) _ _ _
  refine wpAny_pure ?_
  show wpAny _ _ (Builtin.Dict.updateFrom "dict.__init__" s.heap.objs.size (.ref a) [] .none) _ _ _
  unfold Builtin.Dict.updateFrom
  refine wpAny_bind (wpAny_typeOf (T := "tuple") ⟨ob, k0 _ _ hob, hcl⟩ ?_)
  rw [if_pos (by first | decide | rfl | simp)]
  refine wpAny_bind (missT (k0 _ _ hob) hcl hdat hdn (I.ok.hd hc) fun h1 tk1 hk1 => ?_)
  rw [if_pos (show (none : Option Value).isNone = true from rfl)]
  refine wpAny_bind (wpAny_rule ?_)
  have I2 : Inv X pins σ (upd H s.heap.objs.size (.dT [])) { s with heap := h1, toks := tk1 } := I1.kept (t' := tk1) hk1
  have ht1 : h1.IsTuple a its.toArray := ⟨ob, hk1 _ _ (k0 _ _ hob), hcl, n, hdat⟩
  refine wpAny_bind (wpAny_pyIter_tuple (s := { s with heap := h1, toks := tk1 }) ht1 ?_)
  have I3 : Inv X pins σ (upd H s.heap.objs.size (.dT [])) { s with heap := h1.push { cls := .type "tuple_iterator", data := .fields #[.ref a, .int 0 0] }, toks := tk1 } := I2.kept (t' := tk1) fun b o e => Heap.get?_push_of_some _ e
  have hn : H s.heap.objs.size = none := I.hok.fresh (Nat.le_refl _)
  have hS : (upd H s.heap.objs.size (.dT [])) s.heap.objs.size = some (.dT []) := upd_same
  have exH : Ex H (upd H s.heap.objs.size (.dT [])) := Ex.new hn
  have key := upd_loopT (X := X) (pins := pins) (σ := σ) (A := X.A.in1) (R := wants (fun r s₂ => r = .none ∧ EP X pins σ Q (.ref s.heap.objs.size) s₂) X.xe) (S := s.heap.objs.size) (It := h1.objs.size) (l := a) (xs := ys) (res := Value.none) (I.ok.hd hc) (by show X.A.in1.units + 1 < cLine; have : X.A.in1.units ≤ X.A.units + 1 := Nat.le_refl _; omega)
    kvs 0 [] 0 0 _ _ I3 (I2.fpOk (Nat.le_refl _) (I2.hok.fresh (Nat.le_refl _))) hS (sqT_ex exH hsq) (by
      rw [List.drop_zero]
      exact pairedPr_ex exH hp) (by
      have := Paired.length hp
      rw [List.length_nil, Nat.zero_add, ← this]
      exact hz) ⟨_, Heap.get?_push_size _ rfl, rfl, rfl⟩ (fun s' I' => by
      rw [upd_upd] at I'
      exact ⟨rfl, .ref s.heap.objs.size, _, I', rfl, q _ hn⟩)
  first
    | exact wpAny_pure ⟨plainId_quiet ud_plain _, key⟩
    | exact wpAny_bind (wpAny_pure (wpAny_pure ⟨plainId_quiet ud_plain _, key⟩))
end
/-! ### in the language of values -/
section
variable {X : Cx} {c : Kc} {W : WX} {n : Nat} {md : Bool} {e a b : Expr} {m ma mb : M Opd} {pos : Pos} {z : Bool}
/-- tuple(list), of which it is known that it has no names of its own -/
def tupFD : List D → Option D
  | [.list ds] => some (fzD ds)
  | _ => none
theorem call_tupF : CallR X (.type "tuple") (fun xs H Q => ∃ p ys, xs = [.ref p] ∧ SqL X.K H p ys ∧ ∀ l ob, H l = none → ob.cls = .type "tuple" → ob.dict = none → Q (.ref l) (upd H l (.frz ob (.tup ys)))) := by
  intro pins s σ H xs us Q I r h
  obtain ⟨p, ys, rfl, hq, q⟩ := h
  obtain ⟨u, rfl, rx⟩ := vals1 r
  cases rx
  obtain ⟨its, r', pl, hz⟩ := I.list hq
  have hlen := r'.length
  refine call_tuple_list pl.isList (fun h' kp => ?_) (by simp only [List.size_toArray] <;> omega)
  have I1 : Inv X pins σ H { s with heap := h' } := I.kept (t' := s.toks) kp
  have I2 : Inv X pins σ (upd H h'.objs.size (.frz { cls := .type "tuple", data := .seq its.toArray } (.tup ys))) { s with heap := h'.push { cls := .type "tuple", data := .seq its.toArray } } :=
    I1.laid (t' := s.toks) (fun b o e => Heap.get?_push_of_some _ e) (Nat.le_refl _) (show ObjOk X.prog X.w _ _ _ (.frz _ (.tup ys)) from ⟨Heap.get?_push_size _ rfl, hz, its, r', IsTup.new _ _⟩)
  exact ⟨.ref h'.objs.size, _, I2, rfl, q _ _ (I1.hok.fresh (Nat.le_refl _)) rfl rfl⟩
theorem e_tupF {x : Str} {p : Pos} {es : List Expr} {ms : List (M Opd)} (ha : EA X c W n (a :: es) (ops ms)) (hm : X.mg x = none) (hv : bootBuiltins x = some (.type "tuple")) (hg : Gl X x := by rfl) (hn : x ≠ "__name__" := by decide) (hdb : (x == ("__debug__" : Str)) = false := by decide)
    (he : starEach (a :: es) X.env = (false, eval a X.env) :: starEach es X.env := by rfl) (hpl : (backTo pos (starEach es X.env)).any (·.1) = false := by rfl) : EE X c W n (.Call (.Name x p) (a :: es) [] pos) (eN tupFD ms) := fun k =>
  peMono (pe_callTy call_tupF hg hm hv (ha k) hn hdb he hpl) fun σ H Q ⟨F, ρ, G, R, p⟩ => tA_bind R p fun os ρ1 G1 H1 xs e1 R1 r1 p1 => by
    obtain ⟨ds, q1, p2⟩ := ress_ok R1 r1 p1
    obtain ⟨r, q2, p3⟩ := Pst.lift p2
    unfold tupFD at q2
    split at q2
    · cases q2
      cases q1 with
      | cons g1 g2 =>
        cases g2
        obtain ⟨a', vs, rfl, w1, w2⟩ := orep_lst k.hK R1.gh g1
        refine ⟨a', vs, rfl, w1, fun q ob hq hcl hd => ?_⟩
        exact p3 _ _ (Ex.new (R1.gh.free hq)) (R1.new hq) _ (.sm ⟨ob, upd_same, hcl, hd⟩ (w2.mono (Ex.new (R1.gh.free hq))))
    · cases q2
/-- the pairs that are handed to dict -/
def prsT (z : Bool) : List D → Option (List (D × D))
  | [] => some []
  | .tuple [k, x] :: ds => (tkey z k).bind fun _ => (prsT z ds).map ((k, x) :: ·)
  | _ => none
def dictFD (z : Bool) : List D → Option D
  | [.dict [(.none, .tuple ds)]] => (prsT z ds).map fun ps => .dict ((.none, .none) :: ps.foldl (fun a p => putL a p.1 p.2) [])
  | _ => none
theorem prs_ok {G H : Hp} {K : PySem.W.Frag} (hK : c.K = K) (tk : TKc c z) (ex : Ex G H) : ∀ {ds : List D} {xs : List V} {ps : List (D × D)}, RepA c G xs ds → prsT z ds = some ps → ∃ kvs : List (List Key × V), Paired (PrT K H) xs kvs ∧ PT c G kvs ps
  | [], _, ps, .nil, h => by
    cases h
    exact ⟨[], .nil, .nil⟩
  | d :: ds, _, ps, .cons h1 t, h => by
    unfold prsT at h
    split at h
    · rename_i z1; cases z1
    · rename_i k x ds' z1
      cases z1
      cases hk : tkey z k with
      | none => rw [hk] at h; cases h
      | some ks =>
        rw [hk] at h
        have h : (prsT z ds).map ((k, x) :: ·) = some ps := h
        cases hp : prsT z ds with
        | none => rw [hp] at h; cases h
        | some ps' =>
          rw [hp] at h
          cases h
          obtain ⟨kvs, g1, g2⟩ := prs_ok hK tk ex t hp
          obtain ⟨p, ys, rfl, w1, w2⟩ := repT_at hK h1
          cases w2 with
          | cons w2 w3 =>
            cases w3 with
            | cons w3 w4 =>
              cases w4
              obtain ⟨b, rfl, hb⟩ := orep_tkey tk ex (.inl w2) hk
              exact ⟨(kT ks, _) :: kvs, .cons ⟨p, b, rfl, sqT_ex ex w1, hb⟩ g1, .cons ⟨by rw [kT_D]; exact tkey_tup hk, w3⟩ g2⟩
    · cases h
theorem fold_PT {G : Hp} {kvs : List (List Key × V)} {ps : List (D × D)} (h : PT c G kvs ps) : ∀ {acc : List (List Key × V)} {qs : List (D × D)}, PT c G acc qs → PT c G (foldT acc kvs) (ps.foldl (fun a p => putL a p.1 p.2) qs) := by
  induction h with
  | nil => exact fun h => h
  | @cons kv p kvs ps h1 t ih =>
    intro acc qs ha
    have := put_pairT ha kv.1 h1.2
    rw [← h1.1] at this
    exact ih this
theorem n_dictF {x : Str} {p : Pos} {es : List Expr} {ms : List (M Opd)} (tk : TKc c z) (ha : EA X c W n (a :: es) (ops ms)) (hm : X.mg x = none) (hv : bootBuiltins x = some (.type "dict")) (hg : Gl X x := by rfl) (hn : x ≠ "__name__" := by decide) (hdb : (x == ("__debug__" : Str)) = false := by decide)
    (he : starEach (a :: es) X.env = (false, eval a X.env) :: starEach es X.env := by rfl) (hpl : (backTo pos (starEach es X.env)).any (·.1) = false := by rfl) : EN X c W n (.Call (.Name x p) (a :: es) [] pos) (eN (dictFD z) ms) := fun k =>
  peMono (pe_callTy (call_dictT k.calm (by have := k.hu; omega)) hg hm hv (ha k) hn hdb he hpl) fun σ H Q ⟨F, ρ, G, R, p⟩ => tA_bind R p fun os ρ1 G1 H1 xs e1 R1 r1 p1 => by
    obtain ⟨ds, q1, p2⟩ := ress_ok R1 r1 p1
    obtain ⟨r, q2, p3⟩ := Pst.lift p2
    have hr := resN_of R1 p3
    unfold dictFD at q2
    split at q2
    · rename_i ds'
      cases q1 with
      | cons g1 g2 =>
        cases g2
        cases hp : prsT z ds' with
        | none => rw [hp] at q2; cases q2
        | some ps =>
          rw [hp] at q2
          cases q2
          obtain ⟨a', vs, rfl, w1, w2⟩ := orep_sum k.hK R1.gh g1
          obtain ⟨kvs, k1, k2⟩ := prs_ok k.hK tk R1.gh w2 hp
          exact ⟨a', vs, kvs, rfl, w1, k1, fun q hq => hr q _ hq (show OD c G1 (.dT (foldT [] kvs)) (.dict ((.none, .none) :: ps.foldl (fun a p => putL a p.1 p.2) [])) from ⟨_, rfl, fold_PT k2 .nil⟩) (fun _ z => nomatch z)⟩
    · cases q2
end
end Dn


/-! DnL: max(list, default=0). The walk of the machine is the library's for max(list), with the default handed on. -/
namespace Dn
open PySem PySem.Spec L2 PyProof.Rows
section
variable {prog : Program} {w : World} {A : Around} {R : Result → Shared → Prop} {I : Addr} {fp wr : List Addr} {n : Nat} {P : Nat → Value → Prop} {St : Nat → Heap → Prop} {dv : Value}

theorem maxd_loop (W : Walks prog w A.in1 I fp wr n P St) (bt : Nat → Nat → Bool) (hcmp : CmpOf prog w A.in1 .Gt P bt) (S : Addr) (hSf : S ∉ fp) :
    ∀ (k j : Nat) (s : Shared) (vb : Value) (c : Nat), n - (j + 1) = k → j + 1 ≤ n → St (j + 1) s.heap → P (argBest bt j) vb →
    s.heap.get? S = some { cls := .type "list", dict := none, data := .seq #[vb, vb] c, slots := #[] } →
    (∀ v h' tk, P (argBest bt (n - 1)) v → (∀ b o, b ∉ wr → b ≠ S → s.heap.get? b = some o → h'.get? b = some o) → R (.ok (.ret v)) { s with heap := h', toks := tk }) →
    codeAny (model prog w) A (.builtin "max.loop" ⟨[.ref I, .none, .ref S], [("default", dv)]⟩) R s := by
  have hSw : S ∉ wr := fun h => hSf (W.sub _ h)
  have hname : (toString "max" ++ toString ".loop" : String) = "max.loop" := by decide
  intro k
  induction k with
  | zero =>
    intro j s vb c hk hj hst hPb hS hR
    have hin : j + 1 = n := by omega
    refine codeAny_builtin F.entry_max_loop ?_
    rw [Around.under_plainId F.plain_max_loop _]
    show wpAny _ A.in1 (seqItems? (.ref S) >>= _) _ _ s
    refine wpAny_bind (wpAny_seqItems hS rfl ?_)
    show wpAny _ A.in1 (tryCatch (pyNext (.ref I)) _ >>= _) _ _ s
    refine wpAny_bind (wpAny_tryCatch (W.done s _ _ (hin ▸ hst) fun h' tk hk' => ?_))
    have hS' := hk' S _ hSw hS
    show wpAny _ A.in1 (updateSeq S (fun _ => #[]) >>= _) _ _ _
    refine wpAny_bind ?_
    refine wpAny_updateSeq hS' rfl (wpAny_bind (wpAny_letGo (wpAny_pure ?_)))
    refine hR vb _ tk (by rw [← hin]; exact hPb) fun b o hbw hbS e => (Heap.get?_update_other _ _ (Ne.symm hbS)).trans (hk' b o hbw e)
  | succ k ih =>
    intro j s vb c hk hj hst hPb hS hR
    have hlt : j + 1 < n := by omega
    refine codeAny_builtin F.entry_max_loop ?_
    rw [Around.under_plainId F.plain_max_loop _]
    show wpAny _ A.in1 (seqItems? (.ref S) >>= _) _ _ s
    refine wpAny_bind (wpAny_seqItems hS rfl ?_)
    show wpAny _ A.in1 (tryCatch (pyNext (.ref I)) _ >>= _) _ _ s
    refine wpAny_bind (wpAny_tryCatch (W.item (j + 1) s _ _ hlt hst fun v h' tk hP hst' hk' => ?_))
    have hS' := hk' S _ hSw hS
    show wpAny _ A.in1 (tryCatch (holding [v, v] (richCompare .Gt v vb >>= _)) _ >>= _) _ _ _
    refine wpAny_bind (wpAny_tryCatch (wpAny_holding (wpAny_bind (hcmp (j + 1) (argBest bt j) v vb _ _ _ hP hPb ?_))))
    refine wpAny_bind (wpAny_holding (wpAny_truthy_bool ?_))
    refine wpAny_bind (wpAny_letGo (wpAny_pure ?_))
    cases hb : bt (j + 1) (argBest bt j) with
    | true =>
      simp only [if_true]
      refine wpAny_bind ?_
      refine wpAny_updateSeq hS' rfl (wpAny_bind (wpAny_letGo ?_))
      rw [hname]
      refine wpAny_pure ⟨plainId_quiet F.plain_max_loop _, ih (j + 1) _ v _ (by omega) hlt (W.frame _ _ _ hst' fun b hbf o e => ?_) (by simp only [argBest, hb, if_true]; exact hP) (Heap.get?_update_self _ hS' rfl)
        fun v' h'' tk'' hP' hk'' => ?_⟩
      · exact (Heap.get?_update_other _ _ (fun h : S = b => hSf (by rw [h]; exact hbf))).trans e
      · exact hR v' h'' tk'' hP' fun b o hbw hbS e => hk'' b o hbw hbS ((Heap.get?_update_other _ _ (Ne.symm hbS)).trans (hk' b o hbw e))
    | false =>
      simp only [Bool.false_eq_true, if_false]
      refine wpAny_bind (wpAny_letGo ?_)
      rw [hname]
      refine wpAny_pure ⟨plainId_quiet F.plain_max_loop _, ih (j + 1) _ vb c (by omega) hlt hst' (by simp only [argBest, hb, Bool.false_eq_true, if_false]; exact hPb) hS' fun v' h'' tk'' hP' hk'' => ?_⟩
      exact hR v' h'' tk'' hP' fun b o hbw hbS e => hk'' b o hbw hbS (hk' b o hbw e)

theorem maxd_first (W : Walks prog w A.in1 I fp wr n P St) (bt : Nat → Nat → Bool) (hcmp : CmpOf prog w A.in1 .Gt P bt) (S : Addr) (hSf : S ∉ fp) (hn : 0 < n) {s : Shared} {c : Nat} (hst : St 0 s.heap)
    (hS : s.heap.get? S = some { cls := .type "list", dict := none, data := .seq #[] c, slots := #[] })
    (hR : ∀ v h' tk, P (argBest bt (n - 1)) v → (∀ b o, b ∉ wr → b ≠ S → s.heap.get? b = some o → h'.get? b = some o) → R (.ok (.ret v)) { s with heap := h', toks := tk }) :
    codeAny (model prog w) A (.builtin "max.loop" ⟨[.ref I, .none, .ref S], [("default", dv)]⟩) R s := by
  have hSw : S ∉ wr := fun h => hSf (W.sub _ h)
  have hname : (toString "max" ++ toString ".loop" : String) = "max.loop" := by decide
  refine codeAny_builtin F.entry_max_loop ?_
  rw [Around.under_plainId F.plain_max_loop _]
  show wpAny _ A.in1 (seqItems? (.ref S) >>= _) _ _ s
  refine wpAny_bind (wpAny_seqItems hS rfl ?_)
  show wpAny _ A.in1 (tryCatch (pyNext (.ref I)) _ >>= _) _ _ s
  refine wpAny_bind (wpAny_tryCatch (W.item 0 s _ _ hn hst fun v h' tk hP hst' hk' => ?_))
  have hS' := hk' S _ hSw hS
  show wpAny _ A.in1 (updateSeq S (fun _ => #[v, v]) >>= _) _ _ _
  refine wpAny_bind ?_
  refine wpAny_updateSeq hS' rfl ?_
  rw [hname]
  refine wpAny_pure ⟨plainId_quiet F.plain_max_loop _, maxd_loop W bt hcmp S hSf _ 0 _ v _ rfl hn (W.frame _ _ _ hst' fun b hbf o e => ?_) hP (Heap.get?_update_self _ hS' rfl) fun v' h'' tk'' hP' hk'' => ?_⟩
  · exact (Heap.get?_update_other _ _ (fun h : S = b => hSf (by rw [h]; exact hbf))).trans e
  · exact hR v' h'' tk'' hP' fun b o hbw hbS e => hk'' b o hbw hbS ((Heap.get?_update_other _ _ (Ne.symm hbS)).trans (hk' b o hbw e))
/-- of an empty list -/
theorem maxd_none (W : Walks prog w A.in1 I fp wr 0 P St) (S : Addr) (hSf : S ∉ fp) {s : Shared} {c : Nat} (hst : St 0 s.heap)
    (hS : s.heap.get? S = some { cls := .type "list", dict := none, data := .seq #[] c, slots := #[] })
    (hR : ∀ h' tk, (∀ b o, b ∉ wr → b ≠ S → s.heap.get? b = some o → h'.get? b = some o) → R (.ok (.ret dv)) { s with heap := h', toks := tk }) :
    codeAny (model prog w) A (.builtin "max.loop" ⟨[.ref I, .none, .ref S], [("default", dv)]⟩) R s := by
  have hSw : S ∉ wr := fun h => hSf (W.sub _ h)
  refine codeAny_builtin PySem.F.entry_max_loop ?_
  rw [Around.under_plainId PySem.F.plain_max_loop _]
  show wpAny _ A.in1 (seqItems? (.ref S) >>= _) _ _ s
  refine wpAny_bind (wpAny_seqItems hS rfl ?_)
  show wpAny _ A.in1 (tryCatch (pyNext (.ref I)) _ >>= _) _ _ s
  refine wpAny_bind (wpAny_tryCatch (W.done s _ _ hst fun h' tk hk' => ?_))
  refine wpAny_bind (wpAny_rule (wpAny_pure ?_))
  exact hR _ tk fun b o hbw hbS e => hk' b o hbw e
end
section
variable {prog : Program} {w : World} {A : Around} {E : Value → Shared → Prop} {s : Shared} {l : Addr} {xs : Array (Int × Tok)} {dv : Value}
theorem args_maxd (a d : Value) : argsOk "max" ⟨[a], [("default", d)]⟩ := by unfold argsOk; kernel_rfl
theorem call_treeK {id : String} {b : Builtin} {args : List Value} {kw : List (Str × Value)} {Q : Value → Shared → Prop} (hk : builtinKind id = none) (hp : plainId id = true)
    (hb : entryFor table id = some b) (ha : argsOk id ⟨args, kw⟩)
    (hc : wpAny (model prog w) A.in1 (b ⟨args, kw⟩) (fun fin s' => match fin with
      | .done f => (match (Except.ok f : Result) with | .ok (.ret v) => Q v s' | .ok _ => False | .error e => E e s')
      | .again c' => c'.quiet = true ∧ codeAny (model prog w) A c' (fun r s' => match r with | .ok (.ret v) => Q v s' | .ok _ => False | .error e => E e s') s') E s) :
    wpAny (model prog w) A (call (.builtin id) args kw) Q E s := by
  refine wpAny_call (codeAny_call_builtin hp hb ?_)
  simp only [checkBuiltinCall, hk]
  cases hsig : Manifest.signature? id with
  | none => exact wpAny_pure hc
  | some sig =>
    simp only [argsOk, hsig] at ha
    have h2 : Bind.checkArgs id sig ⟨args, kw⟩ = pure () := ha
    show wpAny _ A.in1 (Bind.checkArgs id sig ⟨args, kw⟩) _ _ s
    rw [h2]; exact wpAny_pure hc
theorem maxd_raw {Q : Value → Shared → Prop} (hh : A.handled = none) (hl : s.heap.IsList l (intItems xs))
    (h0 : xs.size = 0 → ∀ h' tk, (∀ b o, s.heap.get? b = some o → h'.get? b = some o) → Q dv { s with heap := h', toks := tk })
    (h : 0 < xs.size → ∀ v h' tk, (intItems xs)[argBest (fun i j => decide (numAt xs i > numAt xs j)) (xs.size - 1)]? = some v → (∀ b o, s.heap.get? b = some o → h'.get? b = some o) → Q v { s with heap := h', toks := tk }) :
    wpAny (model prog w) A (call (.builtin "max") [.ref l] [("default", dv)]) Q E s := by
  have hname : (toString "max" ++ toString ".loop" : String) = "max.loop" := by decide
  refine call_treeK PySem.F.kind_max PySem.F.plain_max PySem.F.entry_max (args_maxd (.ref l) dv) ?_
  show wpAny _ A.in1 (Builtin.Builtins.bindParams "max" ["key", "default"] 0 ⟨[], [("default", dv)]⟩ >>= _) _ _ s
  refine wpAny_bind (wpAny_of_eq (show Builtin.Builtins.bindParams "max" ["key", "default"] 0 ⟨[], [("default", dv)]⟩ = pure [none, some dv] from rfl) ?_)
  refine wpAny_bind (wpAny_pure ?_)
  refine wpAny_bind (iter_intList hl fun s₂ e st hfp hlI => ?_)
  subst e
  refine wpAny_bind (wpAny_newObj_type ?_)
  have W := Walks.list (prog := prog) (w := w) (A := A.in1) hh s.heap.objs.size l hlI (intItems xs)
  have hSf : (s.heap.push { cls := .type "list_iterator", data := .fields #[.ref l, .int 0 0] }).objs.size ∉ [s.heap.objs.size, l] := fun hm => Nat.lt_irrefl _ (hfp _ hm)
  rw [hname]
  refine wpAny_pure ⟨plainId_quiet PySem.F.plain_max_loop _, ?_⟩
  have fin : ∀ {h' : Heap}, (∀ b o, b ∉ [s.heap.objs.size] → b ≠ (s.heap.push { cls := .type "list_iterator", data := .fields #[.ref l, .int 0 0] }).objs.size → ((s.heap.push { cls := .type "list_iterator", data := .fields #[.ref l, .int 0 0] }).push { cls := .type "list", data := .seq #[] }).get? b = some o → h'.get? b = some o) → ∀ b o, s.heap.get? b = some o → h'.get? b = some o := fun hk b o e => by
    have hb := Heap.lt_size e
    exact hk b o (fun hm => by
      have e2 : b = s.heap.objs.size := by simpa using hm
      exact Nat.lt_irrefl _ (e2 ▸ hb)) (by rw [Heap.size_push]; exact Nat.ne_of_lt (Nat.lt_succ_of_lt hb)) (Heap.get?_push_of_some _ (Heap.get?_push_of_some _ e))
  by_cases hn : xs.size = 0
  · have W0 : Walks prog w A.in1 s.heap.objs.size [s.heap.objs.size, l] [s.heap.objs.size] 0 (fun i v => (intItems xs)[i]? = some v) (fun i h => h.IsListIter s.heap.objs.size l i ∧ h.IsList l (intItems xs)) := by
      have e : (intItems xs).size = 0 := by simpa [intItems] using hn
      rw [e] at W
      exact W
    exact maxd_none W0 _ hSf (W0.frame _ _ _ st fun b _ o e => Heap.get?_push_of_some _ e) (Heap.get?_push_size _ rfl) fun h' tk hk => h0 hn h' tk (fin hk)
  · have hn : 0 < xs.size := Nat.pos_of_ne_zero hn
    refine maxd_first W _ (CmpOf.ints_gt (numAt xs) (fun _ _ => intItems_at)) _ hSf (by simpa [intItems] using hn) (W.frame _ _ _ st fun b _ o e => Heap.get?_push_of_some _ e) (Heap.get?_push_size _ rfl) fun v h' tk hP hk => ?_
    exact h hn v h' tk (by simpa [intItems] using hP) (fin hk)
end
section
variable {X : Cx} {c : Kc} {W : WX} {n : Nat} {md : Bool} {e a b : Expr} {m ma mb : M Opd} {pos : Pos}
def rMaxd (K : PySem.W.Frag) : List V → List V → Hp → VK → Prop := fun vs zs H Q => ∃ (a : Addr) (ns : List Int) (z : V), vs = [V.ref a] ∧ zs = [z] ∧ SqL K H a (ns.map V.int) ∧ ((ns = [] ∧ Q z H) ∨ (ns ≠ [] ∧ ∀ m, m ∈ ns → (∀ y, y ∈ ns → y ≤ m) → Q (.int m) H))
theorem cr_maxd (hc : X.calm = true) : CallRK X (.builtin "max") [Str.ofString "default"] (rMaxd X.K) := by
  intro pins s σ H vs zs us ws Q I r r2 h
  obtain ⟨a, ns, z, rfl, rfl, hs, q⟩ := h
  obtain ⟨its, rv, hl, _⟩ := I.list hs
  obtain ⟨w1, rfl, rz⟩ := vals1 r2
  rw [Vals.ref1 r]
  have hi := rv.ints
  obtain ⟨xs, e⟩ := hi.allInts.items
  have hn : numsOf (intItems xs).toList = ns := by rw [← e]; exact hi.numsOf
  rw [nums_intItems] at hn
  subst hn
  have hl := hl.isList
  rw [e] at hl
  refine maxd_raw (I.ok.hd hc) hl (fun h0 h' tk hk => ?_) (fun h0 v h' tk hv hk => ?_)
  · rcases q with ⟨_, q⟩ | ⟨q, _⟩
    · exact ⟨z, H, I.kept hk, rz, q⟩
    · exact absurd (List.map_eq_nil_iff.mpr (by simpa using h0)) q
  · rcases q with ⟨q, _⟩ | ⟨_, q⟩
    · have := congrArg List.length q
      simp at this
      simp [this] at h0
    · obtain ⟨t, rfl⟩ := intItems_at hv
      obtain ⟨h1, h2⟩ := argBest_gt (numAt xs) (xs.size - 1)
      refine ⟨.int _, H, I.kept hk, ⟨t, rfl⟩, q _ ?_ fun a ha => ?_⟩
      · rw [numAt_eq]; exact PySem.getD_mem (by rw [List.length_map, Array.length_toList]; omega)
      · obtain ⟨j, hj, rfl⟩ := mem_getD ha
        rw [List.length_map, Array.length_toList] at hj
        rw [← numAt_eq]; exact h2 j (by omega)
/-- max(list, default=0) -/
def max0D : List D → Option D
  | [.list ds] => match allInts ds with
    | some (x :: xs) => some (.int (maxL xs x))
    | some [] => some (.int 0)
    | none => none
  | _ => none
theorem e_max0 {x : Str} {p kpos cp : Pos} {j} {ms : List (M Opd)} (ha : EA X c W n [a] (ops ms)) (hm : X.mg x = none) (hv : bootBuiltins x = some (.builtin "max")) (hg : Gl X x := by rfl) (hn : x ≠ "__name__" := by decide) (hdb : (x == ("__debug__" : Str)) = false := by decide)
    (he : backTo pos (starEach [a] X.env) = (false, eval a X.env) :: backTo pos (starEach [] X.env) := by rfl) (hpl : (backTo pos (starEach [a] X.env)).any (·.1) = false := by rfl)
    (hall : (backToKw pos (keywordEach [⟨some "default", .Constant (.int 0) j cp, kpos⟩] X.env)).all (·.1.isSome) = true := by rfl) (hnone : (backToKw pos (keywordEach [⟨some "default", .Constant (.int 0) j cp, kpos⟩] X.env)).any (·.1.isNone) = false := by rfl) (hks : (backToKw pos (keywordEach [⟨some "default", .Constant (.int 0) j cp, kpos⟩] X.env)).filterMap (·.1) = [Str.ofString "default"] := by rfl) :
    EE X c W n (.Call (.Name x p) [a] [⟨some "default", .Constant (.int 0) j cp, kpos⟩] pos) (eN max0D ms) := fun k =>
  peMono (pe_callBK (cr_maxd k.calm) hg hm hv (ha k) (pk_cons pe_int pk_nil) hn hdb he hpl hall hnone hks) fun σ H Q ⟨F, ρ, G, R, p⟩ => tA_bind R p fun os ρ1 G1 H1 xs e1 R1 r1 p1 => by
    obtain ⟨ds, q1, p2⟩ := ress_ok R1 r1 p1
    obtain ⟨r, q2, p3⟩ := Pst.lift p2
    have hr := resK_of R1 p3
    unfold max0D at q2
    split at q2
    · rename_i ds1
      cases q1 with
      | cons g1 g2 =>
        cases g2
        obtain ⟨p', vs, e1', w1, w2⟩ := orep_lst k.hK R1.gh g1
        subst e1'
        split at q2
        · rename_i x ys hx
          cases q2
          have ev := repA_ints' w2 hx
          subst ev
          refine ⟨p', x :: ys, .int 0, rfl, rfl, w1, .inr ⟨by simp, fun m hm hy => ?_⟩⟩
          obtain ⟨a1, a2, a3⟩ := maxL_mem ys x
          have : m = maxL ys x := by
            refine Int.le_antisymm ?_ ?_
            · rcases List.mem_cons.mp hm with rfl | hm
              · exact a2
              · exact a3 m hm
            · rcases a1 with e | e
              · rw [e]; exact hy x (by simp)
              · exact hy _ (by simp [e])
          rw [this]
          exact hr.1 _ (.int _)
        · rename_i hx
          cases q2
          have ev := repA_ints' w2 hx
          subst ev
          exact ⟨p', [], .int 0, rfl, rfl, w1, .inl ⟨rfl, hr.1 _ (.int _)⟩⟩
        · cases q2
    · cases q2
end
end Dn


/-! DnN: the order of tuples; sorted(list) of numbers, of tuples of a tuple of numbers and a number. -/
namespace Dn
section
variable {α : Type} (lt : α → α → Bool)
def insG (x : α) : List α → List α
  | [] => [x]
  | y :: ys => if lt y x = true then y :: insG x ys else x :: y :: ys
def sortG : List α → List α
  | [] => []
  | x :: xs => insG lt x (sortG xs)
variable {lt}
theorem insG_perm (x : α) : ∀ ys, (insG lt x ys).Perm (x :: ys)
  | [] => List.Perm.refl _
  | y :: ys => by
    unfold insG
    split
    · exact ((insG_perm x ys).cons y).trans (List.Perm.swap x y ys)
    · exact List.Perm.refl _
theorem sortG_perm : ∀ xs, (sortG lt xs).Perm xs
  | [] => List.Perm.refl _
  | x :: xs => (insG_perm x (sortG lt xs)).trans ((sortG_perm xs).cons x)
def SrtG (lt : α → α → Bool) (xs : List α) : Prop := xs.Pairwise fun a b => lt b a = false
structure OrdG (lt : α → α → Bool) : Prop where
  asym : ∀ {a b}, lt a b = true → lt b a = false
  tr : ∀ {a b d}, lt b a = false → lt d b = false → lt d a = false
  tot : ∀ {a b}, lt a b = false → lt b a = false → a = b
theorem OrdG.self (O : OrdG lt) (a : α) : lt a a = false := by
  cases h : lt a a with
  | false => rfl
  | true => have := O.asym h; rw [h] at this; cases this
theorem insG_srt (O : OrdG lt) {x : α} : ∀ {ys}, SrtG lt ys → SrtG lt (insG lt x ys)
  | [], _ => List.pairwise_singleton _ _
  | y :: ys, h => by
    obtain ⟨h1, h2⟩ := List.pairwise_cons.mp h
    unfold insG
    split
    · rename_i hl
      refine List.pairwise_cons.mpr ⟨fun z hz => ?_, insG_srt O h2⟩
      rcases List.mem_cons.mp ((insG_perm x ys).mem_iff.mp hz) with e | e
      · rw [e]; exact O.asym hl
      · exact h1 z e
    · rename_i hl
      have hl : lt y x = false := by simpa using hl
      refine List.pairwise_cons.mpr ⟨fun z hz => ?_, h⟩
      rcases List.mem_cons.mp hz with e | e
      · rw [e]; exact hl
      · exact O.tr hl (h1 z e)
theorem sortG_srt (O : OrdG lt) : ∀ xs, SrtG lt (sortG lt xs)
  | [] => List.Pairwise.nil
  | x :: xs => insG_srt O (sortG_srt O xs)
theorem srtG_uniq (O : OrdG lt) : ∀ {l m : List α}, SrtG lt l → SrtG lt m → l.Perm m → l = m
  | [], m, _, _, h => (List.Perm.eq_nil h.symm).symm
  | x :: l, [], _, _, h => absurd h.length_eq (by simp)
  | x :: l, y :: m, hl, hm, h => by
    obtain ⟨a1, a2⟩ := List.pairwise_cons.mp hl
    obtain ⟨b1, b2⟩ := List.pairwise_cons.mp hm
    have h1 : lt x y = false := by
      rcases List.mem_cons.mp (h.mem_iff.mp (List.mem_cons_self (a := x) (l := l))) with e | e
      · rw [e]; exact O.self y
      · exact b1 x e
    have h2 : lt y x = false := by
      rcases List.mem_cons.mp (h.mem_iff.mpr (List.mem_cons_self (a := y) (l := m))) with e | e
      · rw [e]; exact O.self x
      · exact a1 y e
    have e := O.tot h1 h2
    subst e
    rw [srtG_uniq O a2 b2 h.cons_inv]
end
def ltZ (a b : Int) : Bool := decide (a < b)
theorem ordZ : OrdG ltZ := ⟨fun h => by have := of_decide_eq_true h; exact decide_eq_false (by omega), fun h g => by have := of_decide_eq_false h; have := of_decide_eq_false g; exact decide_eq_false (by omega), fun h g => by have := of_decide_eq_false h; have := of_decide_eq_false g; omega⟩
def lexT (p q : List Int × Int) : Bool := if p.1 = q.1 then decide (p.2 < q.2) else lexL p.1 q.1
theorem ordT : OrdG lexT where
  asym {a b} h := by
    unfold lexT at h ⊢
    by_cases e : a.1 = b.1
    · rw [if_pos e] at h
      rw [if_pos e.symm]
      have := of_decide_eq_true h
      exact decide_eq_false (by omega)
    · rw [if_neg e] at h
      rw [if_neg (Ne.symm e)]
      exact lexL_asym h
  tr {a b d} h g := by
    unfold lexT at h g ⊢
    by_cases e1 : b.1 = a.1
    · rw [if_pos e1] at h
      by_cases e2 : d.1 = b.1
      · rw [if_pos e2] at g
        rw [if_pos (e2.trans e1)]
        have := of_decide_eq_false h
        have := of_decide_eq_false g
        exact decide_eq_false (by omega)
      · rw [if_neg e2] at g
        rw [if_neg (fun e => e2 (e.trans e1.symm)), ← e1]
        exact g
    · rw [if_neg e1] at h
      by_cases e2 : d.1 = b.1
      · rw [if_pos e2] at g
        rw [if_neg (fun e => e1 (e2.symm.trans e)), e2]
        exact h
      · rw [if_neg e2] at g
        have := lexL_tr h g
        by_cases e3 : d.1 = a.1
        · exfalso
          rw [e3] at g
          exact e1 (lexL_tot h g)
        · rw [if_neg e3]
          exact this
  tot {a b} h g := by
    unfold lexT at h g
    by_cases e : a.1 = b.1
    · rw [if_pos e] at h
      rw [if_pos e.symm] at g
      have := of_decide_eq_false h
      have := of_decide_eq_false g
      exact Prod.ext e (by omega)
    · rw [if_neg e] at h
      rw [if_neg (Ne.symm e)] at g
      exact absurd (lexL_tot h g) e
open PySem PySem.Spec PyProof.Rows L2
/-! ### t < u -/
theorem lexAt_lexL (ns ms : List Int) : ∀ (k i : Nat), i + k = min ns.length ms.length → Ob.lexAt (fun j => decide (ns.getD j 0 = ms.getD j 0)) (fun j => decide (ns.getD j 0 < ms.getD j 0)) (decide (ns.length < ms.length)) i k = lexL (ns.drop i) (ms.drop i)
  | 0, i, h => by
    rw [Ob.lexAt_zero]
    by_cases h1 : ns.length < ms.length
    · rw [decide_eq_true h1, show ns.drop i = [] from List.drop_eq_nil_of_le (by omega), List.drop_eq_getElem_cons (l := ms) (i := i) (by omega)]
      rfl
    · rw [decide_eq_false h1, show ms.drop i = [] from List.drop_eq_nil_of_le (by omega)]
      cases ns.drop i <;> rfl
  | k + 1, i, h => by
    have l1 : i < ns.length := by omega
    have l2 : i < ms.length := by omega
    rw [Ob.lexAt_succ, lexAt_lexL ns ms k (i + 1) (by omega), List.drop_eq_getElem_cons l1, List.drop_eq_getElem_cons l2]
    have e1 : ns.getD i 0 = ns[i] := by rw [List.getD_eq_getElem?_getD, List.getElem?_eq_getElem l1]; rfl
    have e2 : ms.getD i 0 = ms[i] := by rw [List.getD_eq_getElem?_getD, List.getElem?_eq_getElem l2]; rfl
    show (if decide (ns.getD i 0 = ms.getD i 0) = true then _ else decide (ns.getD i 0 < ms.getD i 0)) = (if ns[i] = ms[i] then _ else decide (ns[i] < ms[i]))
    rw [e1, e2]
    by_cases e : ns[i] = ms[i] <;> simp [e]
section
variable {prog : Program} {w : World} {A : Around} {E : Value → Shared → Prop} {s : Shared}
theorem lt_tupInts {a b : Addr} {xs ys : Array Value} {ns ms : List Int} {Q : Value → Shared → Prop} (hu : A.units < cLine) (ha : IsTup s.heap a xs) (hb : IsTup s.heap b ys) (i1 : IntsAre xs.toList ns) (i2 : IntsAre ys.toList ms)
    (h : Q (.bool (lexL ns ms)) s) : wpAny (model prog w) A (compareOp .Lt (.ref a) (.ref b)) Q E s := by
  have e1 : xs.size = ns.length := by rw [← Array.length_toList]; exact i1.length
  have e2 : ys.size = ms.length := by rw [← Array.length_toList]; exact i2.length
  have at1 : ∀ j (h1 : j < xs.size), ∃ t, xs[j] = .int (ns.getD j 0) t := fun j h1 => PyProof.Rows.IntsAre.int_at i1 _ _ (by simp [h1])
  have at2 : ∀ j (h1 : j < ys.size), ∃ t, ys[j] = .int (ms.getD j 0) t := fun j h1 => PyProof.Rows.IntsAre.int_at i2 _ _ (by simp [h1])
  have R := Ob.RcOp.tuples_lt (A := A) (s := s) (e := fun j => decide (ns.getD j 0 = ms.getD j 0)) (r := fun j => decide (ns.getD j 0 < ms.getD j 0)) ha hb hu (fun j h1 h2 => by
    obtain ⟨t, et⟩ := at1 j h1
    obtain ⟨t', et'⟩ := at2 j h2
    rw [et, et']
    have z : (ns.getD j 0 == ms.getD j 0) = decide (ns.getD j 0 = ms.getD j 0) := by
      by_cases q : ns.getD j 0 = ms.getD j 0
      · rw [decide_eq_true q]; exact beq_iff_eq.mpr q
      · rw [decide_eq_false q]; exact beq_eq_false_iff_ne.mpr q
    rw [← z]
    exact SeqAt.EqAt.int_int _ _ _ _) (fun j h1 h2 _ => by
    obtain ⟨t, et⟩ := at1 j h1
    obtain ⟨t', et'⟩ := at2 j h2
    rw [et, et']
    exact Ob.RcOp.lt_int _ _ _ _)
  rw [e1, e2, lexAt_lexL ns ms _ 0 (by omega), List.drop_zero, List.drop_zero] at R
  exact R prog w E Q h
end
def rLtT (K : PySem.W.Frag) : R2 := fun x y H Q => ∃ (a b : Addr) (ns ms : List Int), x = .ref a ∧ y = .ref b ∧ SqT K H a (ns.map V.int) ∧ SqT K H b (ms.map V.int) ∧ Q (.bl (lexL ns ms)) H
theorem op_ltTs {X : Cx} (hu : X.A.units < cLine) : OpR X (compareOp .Lt) (rLtT X.K) := by
  intro pins s σ H x y v u Q I rx ry h
  obtain ⟨a, b, ns, ms, rfl, rfl, ha, hb, q⟩ := h
  cases rx
  cases ry
  obtain ⟨its, r1, p1, _⟩ := I.tuple ha
  obtain ⟨its2, r2, p2, _⟩ := I.tuple hb
  exact lt_tupInts hu p1 p2 (by simpa using Vals.ints r1) (by simpa using Vals.ints r2) ⟨.bl _, H, I, rfl, q⟩
/-- a < b of two tuples of numbers -/
def ltTD (d e : D) : Option D := (intTup d).bind fun ns => (intTup e).map fun ms => .bool (lexL ns ms)
theorem intTup_some {d : D} {ns : List Int} (h : intTup d = some ns) : d = .tuple (ns.map PyData.int) := by
  cases d with
  | tuple ds => rw [allInts_map h]
  | _ => cases h
section
variable {X : Cx} {c : Kc}
theorem op_ltTD (hK : c.K = X.K) (hu : X.A.units + 199 < cLine) : OpR X (compareOp .Lt) (rD2 c ltTD) := by
  intro pins s σ H x y u u2 Q I rx ry h
  obtain ⟨G, d, e, r, ex, hd, he, hg, hr⟩ := h
  unfold ltTD at hg
  cases e1 : intTup d with
  | none => rw [e1] at hg; cases hg
  | some ns =>
    rw [e1] at hg
    have hg : (intTup e).map (fun ms => PyData.bool (lexL ns ms)) = some r := hg
    cases e2 : intTup e with
    | none => rw [e2] at hg; cases hg
    | some ms =>
      rw [e2] at hg
      cases hg
      rw [intTup_some e1] at hd
      rw [intTup_some e2] at he
      obtain ⟨a, xs, rfl, h1, h2⟩ := orep_tup hK ex hd
      obtain ⟨b, ys, rfl, h3, h4⟩ := orep_tup hK ex he
      rw [repA_intsV h2] at h1
      rw [repA_intsV h4] at h3
      exact op_ltTs (by omega) pins s σ H _ _ u u2 Q I rx ry ⟨a, b, ns, ms, rfl, rfl, h1, h3, resB hr⟩
end
/-! ### sorted(list of such pairs) -/
/-- v is a tuple of a tuple of numbers and a number -/
def TermIn (h : Heap) (v : Value) (q : List Int × Int) : Prop := ∃ a b t, v = .ref a ∧ IsTup h a #[.ref b, .int q.2 t] ∧ TS.TupInts h (.ref b) q.1
theorem TermIn.keeps {h h' : Heap} {v : Value} {q : List Int × Int} (x : TermIn h v q) (k : ∀ b o, h.get? b = some o → h'.get? b = some o) : TermIn h' v q := by
  obtain ⟨a, b, t, e, h1, h2⟩ := x
  exact ⟨a, b, t, e, h1.keeps k, h2.keeps fun b o e _ => k b o e⟩
theorem isTup_uniq {h : Heap} {a : Addr} {xs ys : Array Value} (h1 : IsTup h a xs) (h2 : IsTup h a ys) : xs = ys := by
  obtain ⟨o, g1, _, n, g2⟩ := h1
  obtain ⟨o', g3, _, n', g4⟩ := h2
  rw [g1] at g3
  cases g3
  rw [g2] at g4
  cases g4
  rfl
theorem TermIn.uniq {h : Heap} {v : Value} {p q : List Int × Int} (x : TermIn h v p) (y : TermIn h v q) : p = q := by
  obtain ⟨a, b, t, e, h1, h2⟩ := x
  obtain ⟨a', b', t', e', g1, g2⟩ := y
  rw [e] at e'
  cases e'
  have e2 := isTup_uniq h1 g1
  have e3 : [Value.ref b, .int p.2 t] = [Value.ref b', .int q.2 t'] := congrArg Array.toList e2
  injection e3 with e4 e5
  injection e5 with e6 _
  injection e4 with e7
  injection e6 with e8
  subst e7
  exact Prod.ext (by rw [← h2.ints, g2.ints]) e8
open Classical in
noncomputable def termOf (h : Heap) (v : Value) : List Int × Int := if x : ∃ q, TermIn h v q then choose x else ([], 0)
theorem termOf_eq {h : Heap} {v : Value} {q : List Int × Int} (x : TermIn h v q) : termOf h v = q := by
  have e : ∃ q, TermIn h v q := ⟨q, x⟩
  unfold termOf
  rw [dif_pos e]
  exact (Classical.choose_spec e).uniq x
theorem swo_lexT (k : Value → List Int × Int) : SrtO.Swo fun v u => lexT (k v) (k u) := ⟨fun _ _ h => ordT.asym h, fun _ _ _ h g => ordT.tr h g⟩
section
variable {prog : Program} {w : World} {A : Around} {s : Shared}
theorem intsKey {h : Heap} {b : Addr} {ns : List Int} (x : TS.TupInts h (.ref b) ns) : IsTupleKey (mixKind prog w) h (ns.map Sum.inl) b := by
  obtain ⟨a, xs, e, ⟨o, ho, hc, n, hd⟩, i⟩ := x
  cases e
  refine ⟨o, xs, n, ho, hc, hd, ?_⟩
  have main : ∀ {vs : List Value} {ns : List Int}, IntsAre vs ns → ItemsAre (mixKind prog w) (ns.map Sum.inl) vs := by
    intro vs ns i
    induction i with
    | nil => exact .nil
    | cons n t _ ih => exact .cons (mixKind_int prog w n t) ih
  exact main i
theorem firstsT {h : Heap} : ∀ vs : List Value, (∀ v ∈ vs, ∃ q, TermIn h v q) → ∃ fs : List Value, PySem.W.KatTups h vs fs ∧ fs.length = vs.length ∧ ∀ f ∈ fs, ∃ (q : Addr) (o : Obj), f = Value.ref q ∧ h.get? q = some o ∧ o.cls = .type "tuple"
  | [], _ => ⟨[], PySem.W.KatTups.nil, rfl, fun f hf => by simp at hf⟩
  | v :: vs, x => by
    obtain ⟨fs, k, hl, hi⟩ := firstsT vs fun u hu => x u (List.mem_cons_of_mem _ hu)
    obtain ⟨y, a, b, t, rfl, ⟨o, ho, hc, n, hd⟩, ⟨a2, xs2, e2, ⟨o2, ho2, hc2, _⟩, _⟩⟩ := x v (List.mem_cons_self ..)
    cases e2
    refine ⟨.ref b :: fs, PySem.W.KatTups.cons ho hc hd rfl k, by rw [List.length_cons, List.length_cons, hl], fun f hf => ?_⟩
    rcases List.mem_cons.mp hf with rfl | hf
    · exact ⟨b, o2, rfl, ho2, hc2⟩
    · exact hi f hf
theorem term_cmp {vs : List Value} {k : Value → List Int × Int} (hu : A.units < cLine) (x : ∀ v ∈ vs, TermIn s.heap v (k v)) : SrtO.Cmp prog w A s (tuples' false) (fun p => p.1 ∈ vs) (SrtO.lt2 fun v u => lexT (k v) (k u)) := by
  intro p q hm hm'
  have tp := x _ hm
  have tq := x _ hm'
  show wpAny (model prog w) A (keyLt' (tuples' false) p.1 q.1) (fun r s' => s' = s ∧ r = lexT (k p.1) (k q.1)) (fun _ _ => False) s
  generalize k p.1 = kp at tp
  generalize k q.1 = kq at tq
  obtain ⟨a, b, t, e1, ⟨o, ho, hc, n, hd⟩, t2⟩ := tp
  obtain ⟨a', b', t', e2, ⟨o', ho', hc', n', hd'⟩, t2'⟩ := tq
  rw [e1, e2]
  refine PySem.W.kat_lt ho hd ho' hd' ?_
  show PySem.W.KatLex prog w A false false _ [(Value.ref b, Value.ref b'), (Value.int kp.2 t, Value.int kq.2 t')] 0 s
  refine PySem.W.kat_cons (wpAny_eqBool_tuple hu (intsKey (prog := prog) (w := w) t2) (intsKey (prog := prog) (w := w) t2') ?_)
  refine PySem.W.kat_go (fun e0 => ?_) (fun e0 => ?_)
  · have e : kp.1 = kq.1 := (List.map_inj_right (fun a b h => Sum.inl.inj h)).mp (of_decide_eq_true e0)
    refine PySem.W.kat_yes (PySem.W.kat_cons (wpAny_eqBool_int ?_))
    have hl : lexT kp kq = decide (kp.2 < kq.2) := by unfold lexT; rw [if_pos e]
    rw [hl]
    by_cases h2 : kp.2 = kq.2
    · rw [beq_iff_eq.mpr h2]
      exact PySem.W.kat_yes (PySem.W.kat_nil ⟨rfl, (decide_eq_false (by omega)).symm⟩)
    · rw [beq_eq_false_iff_ne.mpr h2]
      exact PySem.W.kat_no (TS.oneLt_ints _ ⟨rfl, rfl⟩)
  · have e : kp.1 ≠ kq.1 := fun e => of_decide_eq_false e0 (by rw [e])
    have hl : lexT kp kq = lexL kp.1 kq.1 := by unfold lexT; rw [if_neg e]
    rw [hl]
    refine PySem.W.kat_no ?_
    show wpAny _ _ (oneLt' false _ _) _ _ _
    obtain ⟨_, xs, ex, w1, w2⟩ := t2
    obtain ⟨_, ys, ey, w3, w4⟩ := t2'
    cases ex
    cases ey
    exact PySem.W.kat_one _ _ (lt_tupInts hu w1 w3 w2 w4 ⟨rfl, rfl⟩)
theorem terms_sortable {a : Addr} {vs : List Value} {k : Value → List Int × Int} (hu : A.units < cLine) (h0 : 0 < vs.length) (x : ∀ v ∈ vs, TermIn s.heap v (k v)) (ha : ∀ o, s.heap.get? a = some o → o.cls ≠ .type "tuple") : SrtO.SortableO prog w A s a vs fun v u => lexT (k v) (k u) := by
  intro h' keep
  have x' : ∀ v ∈ vs, TermIn h' v (k v) := fun v hv => by
    obtain ⟨a1, b, t, e, ⟨o, ho, hc, r⟩, ⟨a2, xs, e2, ⟨o2, ho2, hc2, r2⟩, i⟩⟩ := x v hv
    have kp : ∀ b o, s.heap.get? b = some o → o.cls = .type "tuple" → h'.get? b = some o := fun b o e c => keep b o (fun z => by subst z; exact ha o e c) e
    exact ⟨a1, b, t, e, ⟨o, kp _ _ ho hc, hc, r⟩, ⟨a2, xs, e2, ⟨o2, kp _ _ ho2 hc2, hc2, r2⟩, i⟩⟩
  obtain ⟨fs, h1, h2, h3⟩ := firstsT vs fun v hv => ⟨_, x' v hv⟩
  refine ⟨tuples' false, fun Q E hq => ?_, term_cmp (s := { s with heap := h' }) hu x'⟩
  refine PySem.W.kat_kind (T := .type "tuple") h1 (by omega) (fun f hf => ?_) (by rfl) ?_
  · obtain ⟨q, o, rfl, ho, hc⟩ := h3 f hf
    have z : PySem.W.Looks (model prog w) h' (typeOf (.ref q)) o.cls := (PySem.W.Looks.ld ho).andThen .now
    rw [hc] at z
    exact z
  · have e : (Value.type "tuple" != Value.type "tuple") = false := by first | rfl | decide +kernel | decide
    rw [e]
    exact hq
end
theorem perm_of_map {α β : Type} {f : α → β} : ∀ {l m : List α}, (∀ x ∈ m, ∀ y ∈ m, f x = f y → x = y) → (∀ x ∈ l, x ∈ m) → (l.map f).Perm (m.map f) → l.Perm m := by
  intro l m inj sub h
  classical
  rw [List.perm_iff_count]
  intro a
  by_cases ha : a ∈ m
  · have c : ∀ {k : List α}, (∀ x ∈ k, x ∈ m) → (k.map f).count (f a) = k.count a := by
      intro k hk
      induction k with
      | nil => rfl
      | cons x k ih =>
        have ih := ih fun y hy => hk y (by simp [hy])
        rw [List.map_cons, List.count_cons, List.count_cons, ih]
        by_cases e : x = a
        · subst e; simp
        · have e2 : f x ≠ f a := fun z => e (inj x (hk x (by simp)) a ha z)
          simp [e, e2]
    rw [← c sub, ← c (k := m) fun x hx => hx, h.count_eq]
  · rw [List.count_eq_zero_of_not_mem ha, List.count_eq_zero_of_not_mem fun z => ha (sub a z)]
/-- what the list holds: each a tuple of a tuple of numbers and a number -/
def TmV (K : PySem.W.Frag) (H : Hp) (v : V) (q : List Int × Int) : Prop := ∃ p b, v = .ref p ∧ SqT K H p [.ref b, .int q.2] ∧ SqT K H b (q.1.map V.int)
def rSortT (K : PySem.W.Frag) : List V → Hp → VK → Prop := fun vs H Q => ∃ (a : Addr) (ps : List (V × (List Int × Int))), vs = [.ref a] ∧ SqL K H a (ps.map (·.1)) ∧ (∀ q ∈ ps, TmV K H q.1 q.2) ∧
  ∀ (qs : List (V × (List Int × Int))) (l : Addr), qs.Perm ps → SrtG lexT (qs.map (·.2)) → H l = none → Q (.ref l) (upd H l (.lst (qs.map (·.1))))
theorem tm_in {X : Cx} {pins : List (Addr × Obj)} {σ : L2.St} {H : Hp} {s : Shared} {v : V} {u : Value} {q : List Int × Int} (I : Inv X pins σ H s) (h : TmV X.K H v q) (r : RelV v u) : TermIn s.heap u q := by
  obtain ⟨p, b, rfl, h1, h2⟩ := h
  cases r
  obtain ⟨its, rv, p1, _⟩ := I.tuple h1
  obtain ⟨u1, u2, e, g1, g2⟩ := vals2 rv
  subst e
  cases (show u1 = Value.ref b from g1)
  obtain ⟨t, rfl⟩ := (show ∃ t, u2 = Value.int q.2 t from g2)
  obtain ⟨its2, rv2, p2, _⟩ := I.tuple h2
  exact ⟨p, b, t, rfl, p1, b, its2.toArray, rfl, p2, by simpa using Vals.ints rv2⟩
theorem cr_sortT {X : Cx} (hu : X.A.units + 9 < cLine) : CallR X (.builtin "sorted") (rSortT X.K) := by
  intro pins s σ H xs us Q I r h
  obtain ⟨a, ps, rfl, hs, hp, q⟩ := h
  obtain ⟨its, rv, hl, hz⟩ := I.list hs
  obtain ⟨u, rfl, rx⟩ := r.one
  cases rx
  -- each value is a term
  have tm : ∀ v ∈ its, ∃ q ∈ ps, v = (match q.1 with | .ref p => Value.ref p | _ => .none) ∧ TermIn s.heap v q.2 := by
    have main : ∀ {ps : List (V × (List Int × Int))} {its : List Value}, Vals (ps.map (·.1)) its → (∀ q ∈ ps, TmV X.K H q.1 q.2) → ∀ v ∈ its, ∃ q ∈ ps, v = (match q.1 with | .ref p => Value.ref p | _ => .none) ∧ TermIn s.heap v q.2 := by
      intro ps
      induction ps with
      | nil => intro its rv _ v hv; cases rv; cases hv
      | cons q ps ih =>
        intro its rv hq v hv
        cases rv with
        | cons r1 r2 =>
          rcases List.mem_cons.mp hv with e | hv
          · subst e
            have h1 := hq q (by simp)
            refine ⟨q, by simp, ?_, tm_in I h1 r1⟩
            obtain ⟨p, b, e, _⟩ := h1
            have r1 : RelV q.1 v := r1
            rw [e] at r1 ⊢
            exact r1
          · obtain ⟨q', m, h⟩ := ih r2 (fun q hq' => hq q (by simp [hq'])) v hv
            exact ⟨q', by simp [m], h⟩
    exact main rv hp
  have kf : ∀ v ∈ its, TermIn s.heap v (termOf s.heap v) := fun v hv => by
    obtain ⟨q, _, _, h⟩ := tm v hv
    rw [termOf_eq h]
    exact h
  refine SrtO.sorted_ord (swo_lexT (termOf s.heap)) hl.isList (by rw [← rv.length]; exact hz) (fun h2 h₁ a' ho' kp => ?_) fun out h1 h2 => ?_
  · exact terms_sortable (s := { s with heap := h₁ }) (by show X.A.in1.in1.units < cLine; have : X.A.in1.in1.units ≤ X.A.units + 2 := Nat.le_refl _; omega) (by omega) (fun v hv => (kf v hv).keeps fun b o e => (kp b o e).2) fun o e c => by
      have e' : some o = some (seqObj "list" its.toArray 0) := e.symm.trans ho'
      cases e'
      exact absurd (Value.type.inj c) (by decide)
  obtain ⟨ep, he'⟩ := PyProof.Rows.sortedAll_at s.heap its out.toArray
  -- the same order of the pairs
  have back : ∀ {l : List Value}, (∀ v ∈ l, v ∈ its) → ∃ qs : List (V × (List Int × Int)), Vals (qs.map (·.1)) l ∧ qs.map (·.2) = l.map (termOf s.heap) ∧ l = qs.map (fun q => match q.1 with | .ref p => Value.ref p | _ => .none) ∧ ∀ q ∈ qs, q ∈ ps := by
    intro l
    induction l with
    | nil => exact fun _ => ⟨[], .nil, rfl, rfl, fun q h => by cases h⟩
    | cons v l ih =>
      intro hm
      obtain ⟨qs, g1, g2, g3, g4⟩ := ih fun u hu => hm u (by simp [hu])
      obtain ⟨q, m, e, t⟩ := tm v (hm v (by simp))
      obtain ⟨p, b, eq, _⟩ := hp q m
      refine ⟨q :: qs, ?_, ?_, ?_, fun x hx => ?_⟩
      · rw [List.map_cons]
        refine .cons ?_ g1
        rw [eq]
        rw [eq] at e
        exact e
      · rw [List.map_cons, List.map_cons, g2, termOf_eq t]
      · rw [List.map_cons, ← e, ← g3]
      · rcases List.mem_cons.mp hx with rfl | hx
        · exact m
        · exact g4 x hx
  obtain ⟨qs, g1, g2, g3, g4⟩ := back (l := out) fun v hv => h2.perm.mem_iff.mp hv
  have key : ∀ q ∈ ps, termOf s.heap (match q.1 with | .ref p => Value.ref p | _ => .none) = q.2 := fun q m => by
    have h := hp q m
    obtain ⟨p, b, e, _⟩ := id h
    have : TermIn s.heap (match q.1 with | .ref p => Value.ref p | _ => .none) q.2 := tm_in I h (by rw [e]; exact rfl)
    exact termOf_eq this
  have eits : its = ps.map (fun q => match q.1 with | .ref p => Value.ref p | _ => .none) := by
    have main : ∀ {ps : List (V × (List Int × Int))} {its : List Value}, Vals (ps.map (·.1)) its → (∀ q ∈ ps, TmV X.K H q.1 q.2) → its = ps.map (fun q => match q.1 with | .ref p => Value.ref p | _ => .none) := by
      intro ps
      induction ps with
      | nil => intro its rv _; cases rv; rfl
      | cons q ps ih =>
        intro its rv hq
        cases rv with
        | cons r1 r2 =>
          rw [List.map_cons, ← ih r2 fun q hq' => hq q (by simp [hq'])]
          obtain ⟨p, b, e, _⟩ := hq q (by simp)
          have r1 : RelV q.1 _ := r1
          rw [e] at r1 ⊢
          rw [show _ = Value.ref p from r1]
    exact main rv hp
  have pm : qs.Perm ps := by
    have inj : ∀ x ∈ ps, ∀ y ∈ ps, (match x.1 with | .ref p => Value.ref p | _ => .none) = (match y.1 with | .ref p => Value.ref p | _ => .none) → x = y := fun x mx y my e => by
      have e2 : x.2 = y.2 := by rw [← key x mx, ← key y my, e]
      obtain ⟨p, b, ex, _⟩ := hp x mx
      obtain ⟨p', b', ey, _⟩ := hp y my
      rw [ex, ey] at e
      refine Prod.ext ?_ e2
      rw [ex, ey]
      injection e with e
      rw [e]
    have h3 : (qs.map (fun q => match q.1 with | .ref p => Value.ref p | _ => .none)).Perm (ps.map (fun q => match q.1 with | .ref p => Value.ref p | _ => .none)) := by rw [← g3, ← eits]; exact h2.perm
    clear g1 g2 g3 h1 h2 he'
    exact perm_of_map inj (fun q m => g4 q m) h3
  have hlen : (qs.map (·.1)).length ≤ sizeLine := by
    rw [List.length_map, pm.length_eq]
    rw [List.length_map] at hz
    exact hz
  refine ⟨.ref _, upd H (s.heap.objs.size + 1) (.lst (qs.map (·.1))), I.laid (t' := s.toks) (fun _ _ => PyProof.Rows.sortedAll_old) (Nat.le_succ _) ⟨hlen, out, ep, g1, he'⟩, rfl, q qs _ pm ?_ (I.hok.fresh (Nat.le_succ _))⟩
  unfold SrtG
  rw [g2]
  exact List.pairwise_map.mpr h1
/-! ### in the language of values -/
section
variable {X : Cx} {c : Kc}
def tmE (q : List Int × Int) : D := .tuple [.tuple (q.1.map PyData.int), .int q.2]
def tmS : List D → Option (List (List Int × Int))
  | [] => some []
  | .tuple [.tuple ks, .int n] :: ds => (allInts ks).bind fun k => (tmS ds).map ((k, n) :: ·)
  | _ => none
theorem tmS_some : ∀ {ds : List D} {ts : List (List Int × Int)}, tmS ds = some ts → ds = ts.map tmE
  | [], ts, h => by cases h; rfl
  | d :: ds, ts, h => by
    unfold tmS at h
    split at h
    · rename_i z; cases z
    · rename_i ks n ds' z
      cases z
      cases hk : allInts ks with
      | none => rw [hk] at h; cases h
      | some k =>
        rw [hk] at h
        have h : (tmS ds).map ((k, n) :: ·) = some ts := h
        cases ht : tmS ds with
        | none => rw [ht] at h; cases h
        | some ts' =>
          rw [ht] at h
          cases h
          rw [List.map_cons, ← tmS_some ht, allInts_map hk]
          rfl
    · cases h
theorem tmS_mk (ts : List (List Int × Int)) : tmS (ts.map tmE) = some ts := by
  induction ts with
  | nil => rfl
  | cons q ts ih =>
    have e : allInts (q.1.map PyData.int) = some q.1 := by
      generalize q.1 = k
      induction k with
      | nil => rfl
      | cons i k ih => show (allInts (k.map PyData.int)).map (i :: ·) = _; rw [ih]; rfl
    show (allInts (q.1.map PyData.int)).bind (fun k => (tmS (ts.map tmE)).map ((k, q.2) :: ·)) = _
    rw [e, ih]
    rfl
def sortTD : List D → Option D
  | [.list ds] => (tmS ds).map fun ts => .list ((sortG lexT ts).map tmE)
  | _ => none
theorem call_sortTD (hK : c.K = X.K) (hu : X.A.units + 199 < cLine) : CallR X (.builtin "sorted") (rDN c sortTD) := by
  intro pins s σ H xs us Q I rx h
  obtain ⟨G, ds, r, ex, hd, hg, hr⟩ := h
  unfold sortTD at hg
  split at hg
  · rename_i ds1
    cases ht : tmS ds1 with
    | none => rw [ht] at hg; cases hg
    | some ts =>
      rw [ht] at hg
      cases hg
      have ed := tmS_some ht
      subst ed
      cases hd with
      | cons h1 h2 =>
        cases h2
        obtain ⟨a, vs, e1, q1, r1⟩ := orep_lst hK ex h1
        subst e1
        have hz : ∀ {ts : List (List Int × Int)} {vs : List V}, RepA c G vs (ts.map tmE) → ∃ ps : List (V × (List Int × Int)), ps.map (·.1) = vs ∧ ps.map (·.2) = ts ∧ ∀ q ∈ ps, Rep c G q.1 (tmE q.2) := by
          intro ts
          induction ts with
          | nil => intro vs h; cases h; exact ⟨[], rfl, rfl, fun q h => by cases h⟩
          | cons t ts ih =>
            intro vs h
            cases h with
            | @cons v vs' _ _ g1 g2 =>
              obtain ⟨ps, k1, k2, k3⟩ := ih g2
              refine ⟨(v, t) :: ps, by rw [List.map_cons, k1], by rw [List.map_cons, k2], fun q hq => ?_⟩
              rcases List.mem_cons.mp hq with rfl | hq
              · exact g1
              · exact k3 q hq
        obtain ⟨ps, k1, k2, k3⟩ := hz r1
        refine cr_sortT (by omega) pins s σ H _ us Q I rx ⟨a, ps, rfl, by rw [k1]; exact q1, fun q hq => ?_, fun qs l pm srt hl => ?_⟩
        · obtain ⟨p, ys, e, w1, w2⟩ := repT_at hK (k3 q hq)
          cases w2 with
          | cons w2 w3 =>
            cases w3 with
            | cons w3 w4 =>
              cases w4
              cases w3
              obtain ⟨b, zs, e2, w5, w6⟩ := repT_at hK w2
              subst e2
              rw [repA_intsV w6] at w5
              exact ⟨p, b, e, sqT_ex ex w1, sqT_ex ex w5⟩
        · refine hr.2 l _ hl ?_ (fun u z => nomatch z)
          have e : qs.map (·.2) = sortG lexT ts := srtG_uniq ordT srt (sortG_srt ordT ts) (by
            rw [← k2]
            exact (pm.map _).trans (sortG_perm _).symm)
          show RepA c G (qs.map (·.1)) ((sortG lexT ts).map tmE)
          rw [← e]
          have : ∀ q ∈ qs, Rep c G q.1 (tmE q.2) := fun q hq => k3 q (pm.mem_iff.mp hq)
          clear pm srt hr e
          induction qs with
          | nil => exact .nil
          | cons q qs ih => exact .cons (this q (by simp)) (ih fun x hx => this x (by simp [hx]))
  · cases hg
def sortZD : List D → Option D
  | [.list ds] => (allInts ds).map fun ns => .list ((sortG ltZ ns).map PyData.int)
  | _ => none
theorem call_sortZD (hK : c.K = X.K) : CallR X (.builtin "sorted") (rDN c sortZD) := by
  intro pins s σ H xs us Q I rx h
  obtain ⟨G, ds, r, ex, hd, hg, hr⟩ := h
  unfold sortZD at hg
  split at hg
  · rename_i ds1
    cases ht : allInts ds1 with
    | none => rw [ht] at hg; cases hg
    | some ns =>
      rw [ht] at hg
      cases hg
      cases hd with
      | cons h1 h2 =>
        cases h2
        obtain ⟨a, vs, e1, q1, r1⟩ := orep_lst hK ex h1
        subst e1
        have ev := repA_ints' r1 ht
        subst ev
        refine cr_sortedI pins s σ H _ us Q I rx ⟨a, ns, rfl, q1, fun ns' p pm srt hp => ?_⟩
        refine hr.2 p _ hp ?_ (fun u z => nomatch z)
        have e : ns' = sortG ltZ ns := srtG_uniq ordZ (srt.imp fun {x y} h => decide_eq_false (by omega)) (sortG_srt ordZ ns) (pm.trans (sortG_perm _).symm)
        show RepA c G (ns'.map V.int) ((sortG ltZ ns).map PyData.int)
        rw [← e]
        exact repA_ints ns'
  · cases hg
end
end Dn


/-! DnB: comprehensions over an own list that is changed later. -/
namespace Dn
open PySem PySem.Spec L2 PyProof.Rows
section
variable {c : Kc} {F : Fr} {ρ : Env} {σ : L2.St} {G H : Hp} {i : Nat} {d : D} {a : Addr}
def lendF (F : Fr) (i : Nat) (a : Addr) : Fr := { F with io := fun j => if j = i then some a else F.io j }
theorem Rel.lend {k : Bool} (R : Rel c F ρ σ G H) (h : ρ[i]? = some (.own k d)) : ∃ a, σ[i]? = some (some (.ref a)) ∧ (k = true → F.N a) ∧ (k = false → F.io i = some a) ∧ (∃ o, H a = some o ∧ OD c G o d) ∧ Rel c (lendF F i a) (ρ.set i (.own false d)) σ G H := by
  obtain ⟨a, e, h1, h2, h3, h4, h5, o, h6, h7⟩ := R.slot_own h
  have hi : i < ρ.length := (List.getElem?_eq_some_iff.mp h).1
  refine ⟨a, e, h4, h5, ⟨o, h6, h7⟩, ⟨by rw [List.length_set]; exact R.len, R.gh, R.bh, R.xg, R.xh, R.nh, fun j s hs => ?_, fun j l kj kl dj dl b hjl hj hl hb => ?_, R.tk⟩⟩
  · by_cases ej : i = j
    · subst ej
      rw [List.getElem?_set_self hi] at hs
      cases hs
      exact ⟨_, e, h1, h2, h3, (fun z => nomatch z), fun _ => if_pos rfl, o, h6, h7⟩
    · rw [List.getElem?_set_ne ej] at hs
      obtain ⟨u, e', q⟩ := R.sl j s hs
      refine ⟨u, e', ?_⟩
      cases s with
      | un => trivial
      | val d => cases u <;> exact q
      | own b d =>
        cases u with
        | none => exact q
        | some x =>
          cases x with
          | ref a' =>
            obtain ⟨q1, q2, q3, q4, q5, q6⟩ := q
            exact ⟨q1, q2, q3, q4, fun z => by
              show (if j = i then some a else F.io j) = some a'
              rw [if_neg (Ne.symm ej)]
              exact q5 z, q6⟩
          | _ => exact q
  · have up : ∀ {j : Nat} {kj : Bool} {dj : D}, (ρ.set i (.own false d))[j]? = some (.own kj dj) → ∃ k' d', ρ[j]? = some (.own k' d') := fun {j kj dj} hj => by
      by_cases ej : i = j
      · subst ej; exact ⟨_, _, h⟩
      · rw [List.getElem?_set_ne ej] at hj; exact ⟨_, _, hj⟩
    obtain ⟨_, _, g1⟩ := up hj
    obtain ⟨_, _, g2⟩ := up hl
    exact R.dj j l _ _ _ _ b hjl g1 g2 hb
theorem Rel.unlend {k : Bool} (R : Rel c (lendF F i a) ρ σ G H) (h : ρ[i]? = some (.own false d)) (hN : k = true → F.N a) (hio : k = false → F.io i = some a) : Rel c F (ρ.set i (.own k d)) σ G H := by
  obtain ⟨a', e, h1, h2, h3, h4, h5, o, h6, h7⟩ := R.slot_own h
  have ea : a' = a := by
    have := h5 rfl
    have z : (if i = i then some a else F.io i) = some a' := this
    rw [if_pos rfl] at z
    exact (Option.some.inj z).symm
  subst ea
  have hi : i < ρ.length := (List.getElem?_eq_some_iff.mp h).1
  refine ⟨by rw [List.length_set]; exact R.len, R.gh, R.bh, R.xg, R.xh, R.nh, fun j s hs => ?_, fun j l kj kl dj dl b hjl hj hl hb => ?_, R.tk⟩
  · by_cases ej : i = j
    · subst ej
      rw [List.getElem?_set_self hi] at hs
      cases hs
      exact ⟨_, e, h1, h2, h3, hN, hio, o, h6, h7⟩
    · rw [List.getElem?_set_ne ej] at hs
      obtain ⟨u, e', q⟩ := R.sl j s hs
      refine ⟨u, e', ?_⟩
      cases s with
      | un => trivial
      | val d => cases u <;> exact q
      | own b d =>
        cases u with
        | none => exact q
        | some x =>
          cases x with
          | ref a2 =>
            obtain ⟨q1, q2, q3, q4, q5, q6⟩ := q
            refine ⟨q1, q2, q3, q4, fun z => ?_, q6⟩
            have w : (if j = i then some a' else F.io j) = some a2 := q5 z
            rw [if_neg (Ne.symm ej)] at w
            exact w
          | _ => exact q
  · have up : ∀ {j : Nat} {kj : Bool} {dj : D}, (ρ.set i (.own k d))[j]? = some (.own kj dj) → ∃ k' d', ρ[j]? = some (.own k' d') := fun {j kj dj} hj => by
      by_cases ej : i = j
      · subst ej; exact ⟨_, _, h⟩
      · rw [List.getElem?_set_ne ej] at hj; exact ⟨_, _, hj⟩
    obtain ⟨_, _, g1⟩ := up hj
    obtain ⟨_, _, g2⟩ := up hl
    exact R.dj j l _ _ _ _ b hjl g1 g2 hb
theorem yl_own {K : PySem.W.Frag} {G0 : Hp} {n : Nat} : Yl c (Itl K a) (ofB i n) (okB i n) n G0 (fun _ σ => σ[i]? = some (some (.ref a))) := by
  intro F ρ σ G H e R hσ
  have at_own : ∀ {ds : List D}, ρ[i]? = some (.own false (.list ds)) → ∃ xs, SqL K H a xs ∧ RepA c G xs ds := fun {ds} h => by
    obtain ⟨a', e', _, _, _, _, _, o, h6, h7⟩ := R.slot_own h
    rw [hσ] at e'
    cases e'
    cases o with
    | lst xs => exact ⟨xs, .inl (.inl h6), h7⟩
    | _ => exact (show False from h7).elim
  refine ⟨fun k d hk hd => ?_, fun hf => ?_⟩
  · unfold ofB at hd
    split at hd
    · rename_i ds hs
      split at hd
      · obtain ⟨xs, hq, ra⟩ := at_own hs
        obtain ⟨x, hx, rx⟩ := ra.get hd
        refine ⟨⟨xs, x, hq, hx⟩, fun y H' hy => ?_⟩
        obtain ⟨rfl, hy⟩ := hy
        have ey := hy xs hq
        rw [hx] at ey
        cases ey
        exact ⟨G, Ex.refl G, R, rx, fun p o h1 h2 => ⟨h1, h2⟩⟩
      · cases hd
    · cases hd
  · unfold okB at hf
    split at hf
    · rename_i ds hs
      obtain ⟨xs, hq, ra⟩ := at_own hs
      have := of_decide_eq_true hf
      exact ⟨xs, hq, by rw [ra.length, this]; exact Nat.le_refl _⟩
    · cases hf
end
section
variable {X : Cx} {c : Kc} {W : WX} {n : Nat} {md : Bool} {pos : Pos}
theorem lcB_is {i : Nat} {t : Tg} {js : List Nat} {ts : M Bool} {el : M Opd} : ∀ ρ o ρ', lcB i t js ts el ρ = .ok o ρ' → ∃ ds, o = .val (.list ds) := fun ρ o ρ' h => by
  unfold lcB at h
  split at h
  · rename_i k ds _
    unfold R.map at h
    split at h
    · rename_i a ρ1 e
      have : ∃ ds, a = Opd.val (.list ds) := by
        unfold lcO at e
        split at e
        · split at e
          · cases e; exact ⟨_, rfl⟩
          · cases e
        · cases e
      obtain ⟨ds', rfl⟩ := this
      cases hb : backB i k ρ1 with
      | none => rw [hb] at h; cases h
      | some ρ2 => rw [hb] at h; cases h; exact ⟨_, rfl⟩
    · rename_i x ρ1 e
      cases hb : backB i k ρ1 with
      | none => rw [hb] at h; cases h
      | some ρ2 => rw [hb] at h; cases h
    · cases h
  · cases h
/-- what the walk of such a comprehension comes to -/
theorem lcB_run {F : Fr} {ρ : Env} {σ : L2.St} {G H : Hp} {i : Nat} {t : Tg} {js : List Nat} {ts : M Bool} {el : M Opd} {g : TG} {tt : TT} {te : TE} {Q : VK} {K' : Opd → Env → Hp → Hp → Prop}
    (R : Rel c F ρ σ G H) (hi : i ∉ js) (hK : c.K = X.K) (hj : ∀ j ∈ tgS t, j ∈ js)
    (hg : ∀ x σ H Q, tGk c t x σ H Q → g x σ H Q) (ht : ∀ σ H Q, tT c W0 ts σ H Q → tt σ H Q) (he : ∀ σ H Q, tE c W0 el σ H Q → te σ H Q)
    (p : Pst c F W σ G (lcB i t js ts el ρ) K')
    (hQ : ∀ ρ' G' H' q rs, Rel c F ρ' σ G' H' → Fresh c F ρ' σ G' H' q (.list rs) → K' (.val (.list rs)) ρ' G' H' → Q (.ref q) H') :
    ∃ a, σ[i]? = some (some (.ref a)) ∧ (∃ xs, SqL X.K H a xs) ∧ ∀ q, H q = none → ∃ W' : Nat → Nat → Hp → Prop, (∃ m, W' 0 m (upd H q (.lst []))) ∧ ∀ k m H, W' k m H →
      ((Itl X.K a).stop k H ∧ Q (.ref q) H) ∨ ((Itl X.K a).go k H ∧ ∃ Nx : Hp → Prop, (∀ H', Nx H' → ∃ m', m' < m ∧ W' (k + 1) m' H') ∧ ∀ x H', (Itl X.K a).yld k H x H' → g x (wipe σ js) H' fun σ2 H2 => wipe σ2 js = wipe σ js ∧ tt σ2 H2 fun b H3 =>
        if b = true then te σ2 H3 fun y H4 => ∃ acc, H4 q = some (.lst acc) ∧ acc.length < sizeLine ∧ Nx (upd H4 q (.lst (acc ++ [y]))) else Nx H3) := by
  unfold lcB at p
  split at p
  · rename_i k ds hs
    obtain ⟨a, h1, hN, hio, ⟨o, h6, h7⟩, R1⟩ := R.lend hs
    cases o with
    | lst xs =>
      refine ⟨a, h1, ⟨xs, .inl (.inl h6)⟩, fun q hq => ?_⟩
      unfold lcO at p
      by_cases hn : ds.length ≤ 100000
      · rw [if_pos hn] at p
        cases hl : lcN (ofB i ds.length) (okB i ds.length) t js ts el ds.length 0 [] (wipeD (ρ.set i (.own false (.list ds))) js) with
        | ok rs ρe =>
          rw [hl] at p
          have p : Pst c F W σ G ((backB i k (backD (ρ.set i (.own false (.list ds))) ρe js)).elim .stuck (Dn.R.ok (Opd.val (.list rs)))) K' := p
          refine lc_run (P := fun _ σ => σ[i]? = some (some (.ref a))) R1 (yl_own (K := X.K)) (fun F' _ => ?_) hq hn hg ht he hj hl fun G' H' e' R' f' => ?_
          · rw [wipe_out hi]
            exact h1
          · unfold backB at p
            cases hb : (backD (ρ.set i (.own false (.list ds))) ρe js)[i]? with
            | none => rw [hb] at p; exact (show False from p).elim
            | some s =>
              rw [hb] at p
              cases s with
              | own kb db =>
                cases kb with
                | false =>
                  have p : Pst c F W σ G (.ok (Opd.val (.list rs)) ((backD (ρ.set i (.own false (.list ds))) ρe js).set i (.own k db))) K' := p
                  have R2 := R'.unlend hb hN hio
                  have f2 : Fresh c F ((backD (ρ.set i (.own false (.list ds))) ρe js).set i (.own k db)) σ G' H' q (.list rs) := ⟨f'.g, f'.b, f'.x, f'.n, f'.o, fun j kj e hj' => by
                    by_cases ej : i = j
                    · subst ej
                      exact f'.sl i _ _ hb
                    · rw [List.getElem?_set_ne ej] at hj'
                      exact f'.sl j kj e hj'⟩
                  exact hQ _ G' H' q rs R2 f2 (p G' H' e' R2)
                | true => exact (show False from p).elim
              | un => exact (show False from p).elim
              | val d => exact (show False from p).elim
        | exc x ρe => rw [hl] at p; exact (show False from p).elim
        | stuck => rw [hl] at p; exact (show False from p).elim
      · rw [if_neg hn] at p
        exact (show False from p).elim
    | _ => exact (show False from h7).elim
  · exact (show False from p).elim
theorem n_lcB (i : Nat) {x : Str} {px : Pos} {tgt elt : Expr} {ifs : List Expr} {scope : Scope} {own : List (Str × Nat)} {t : Tg} {ts : M Bool} {el : M Opd} (hb : Blk X c n scope tgt t ifs ts elt el)
    (ok : blkC X.N X.env.scope scope own = true) (hj : ∀ j ∈ tgS t, j ∈ own.map (·.2) := by decide) (hi : i ∉ own.map (·.2) := by decide) (hN : X.N[i]? = some x := by rfl) (hv : Vis X.env.scope x := by first | exact Or.inl rfl | exact Or.inr (Or.inl rfl) | exact Or.inr (Or.inr rfl)) (hd : (x == ("__debug__" : Str)) = false := by decide) (hcd : (x == ("__classdict__" : Str)) = false := by decide) (hs : ∀ z, foldedSetIterable (.Name x px) X.env z = pure z := by intro _; rfl) :
    EN X c W n (.ListComp elt [⟨tgt, .Name x px, ifs, 0⟩] scope pos) (lcB i t (own.map (·.2)) ts el) := fun k =>
  peMono (pe_lc k.calm k.nd (pi_any (pe_var hN hv hd hcd)) (blkOk_by ok) (fun s H C cl fp => hb.g s H C cl fp k.hK k.calm) (fun s H C cl fp => hb.t s H C cl fp k.blk) (fun s H C cl fp => hb.e s H C cl fp k.blk) hs) fun σ H Q ⟨F, ρ, G, R, p⟩ => by
    obtain ⟨a, h1, sq, run⟩ := lcB_run (X := X) (Q := Q) R hi k.hK hj (fun _ _ _ _ z => z) (fun _ _ _ z => z) (fun _ _ _ z => z) p (fun ρ' G' H' q rs R f kk => kk _ q rfl f)
    exact ⟨_, h1, a, rfl, .inl ⟨sq, run⟩⟩
theorem e_lcB (i : Nat) {x : Str} {px : Pos} {tgt elt : Expr} {ifs : List Expr} {scope : Scope} {own : List (Str × Nat)} {t : Tg} {ts : M Bool} {el : M Opd} (hb : Blk X c n scope tgt t ifs ts elt el)
    (ok : blkC X.N X.env.scope scope own = true) (hj : ∀ j ∈ tgS t, j ∈ own.map (·.2) := by decide) (hi : i ∉ own.map (·.2) := by decide) (hN : X.N[i]? = some x := by rfl) (hv : Vis X.env.scope x := by first | exact Or.inl rfl | exact Or.inr (Or.inl rfl) | exact Or.inr (Or.inr rfl)) (hd : (x == ("__debug__" : Str)) = false := by decide) (hcd : (x == ("__classdict__" : Str)) = false := by decide) (hs : ∀ z, foldedSetIterable (.Name x px) X.env z = pure z := by intro _; rfl) :
    EE X c W n (.ListComp elt [⟨tgt, .Name x px, ifs, 0⟩] scope pos) (lcB i t (own.map (·.2)) ts el) := e_n (n_lcB i hb ok hj hi hN hv hd hcd hs) lcB_is
theorem s_setVLcB {i : Nat} (l : Nat) {x y : Str} {px py : Pos} {tgt elt : Expr} {ifs : List Expr} {scope : Scope} {own : List (Str × Nat)} {t : Tg} {ts : M Bool} {el : M Opd} {spos : Pos} (hb : Blk X c n scope tgt t ifs ts elt el)
    (ok : blkC X.N X.env.scope scope own = true) (hsw : swapsWith (.ListComp elt [⟨tgt, .Name x px, ifs, 0⟩] scope pos) (some (.Name y py)) spos.line X.env = pure true := by exact sw_true rfl rfl rfl rfl) (hy : X.N[i]? = some y := by rfl) (hyl : X.env.scope.names.lookup y = some .local := by rfl) (hj : ∀ j ∈ tgS t, j ∈ own.map (·.2) := by decide)
    (hi : l ∉ own.map (·.2) := by decide) (hN : X.N[l]? = some x := by rfl) (hv : Vis X.env.scope x := by first | exact Or.inl rfl | exact Or.inr (Or.inl rfl) | exact Or.inr (Or.inr rfl)) (hd : (x == ("__debug__" : Str)) = false := by decide) (hcd : (x == ("__classdict__" : Str)) = false := by decide) (hs : ∀ z, foldedSetIterable (.Name x px) X.env z = pure z := by intro _; rfl) :
    SS X c W n md (.Assign [.Name y py] (.ListComp elt [⟨tgt, .Name x px, ifs, 0⟩] scope pos) spos) (setV i (lcB l t (own.map (·.2)) ts el)) := fun k =>
  psMono (ps_setLc k.calm k.nd hy hyl hsw (pi_any (pe_var hN hv hd hcd)) (blkOk_by ok) (fun s H C cl fp => hb.g s H C cl fp k.hK k.calm) (fun s H C cl fp => hb.t s H C cl fp k.blk) (fun s H C cl fp => hb.e s H C cl fp k.blk) hs) fun E σ H ⟨F, ρ, G, R, p⟩ => by
    have p : PstS c F md W E G ((lcB l t (own.map (·.2)) ts el ρ).fl fun o => exe (stab o) fun d => fun ρ => .next (ρ.set i (.val d))) := p
    have p2 : Pst c F W σ G (lcB l t (own.map (·.2)) ts el ρ) fun o ρ' G' H' => ∀ d q, o = .val d → Fresh c F ρ' σ G' H' q d → Rel c F ρ' σ G' H' → gName i (.ref q) σ H' E.nx := by
      cases er : lcB l t (own.map (·.2)) ts el ρ with
      | ok o ρ' =>
        rw [er] at p
        obtain ⟨ds, eo⟩ := lcB_is _ _ _ er
        subst eo
        refine fun G1 H1 e1 R1 d q ed fr _ => ?_
        cases ed
        obtain ⟨G2, e2, R2, r2⟩ := fr.know R1
        exact (show PstS c F md W E G (.next (ρ'.set i (.val (.list ds)))) from p) _ G2 H1 (e1.trans e2) (R2.setv r2)
      | exc x ρ' => rw [er] at p; exact fun cls dd G' H' e' R' hx => p cls dd σ G' H' e' R' hx
      | stuck => rw [er] at p; exact p
    obtain ⟨a, h1, sq, run⟩ := lcB_run (X := X) (Q := fun z H1 => gName i z σ H1 E.nx) R hi k.hK hj (fun _ _ _ _ z => z) (fun _ _ _ z => z) (fun _ _ _ z => z) p2 (fun ρ' G' H' q rs R f kk => kk _ q rfl f R)
    exact ⟨_, h1, a, rfl, .inl ⟨sq, run⟩⟩
end
end Dn


/-! DnT: reckoning in the language of values. -/
namespace Dn
open PySem

section
variable {α β : Type} {ρ ρ' : Env} {m n : M Opd} {i : Nat} {d e x y : D} {o : Opd}
theorem bnd_ok {m : M α} {f : α → M β} {a : α} (h : m ρ = .ok a ρ') : bnd m f ρ = f a ρ' := by unfold bnd; rw [h]; rfl
theorem ret_ap {a : α} : ret a ρ = .ok a ρ := Eq.trans rfl rfl
theorem c_ap : c d ρ = .ok (.val d) ρ := Eq.trans rfl rfl
theorem lift_some {a : α} : lift (some a) ρ = .ok a ρ := Eq.trans rfl rfl
theorem res_val : res (.val d) ρ = .ok d ρ := Eq.trans rfl rfl
theorem stab_val : stab (.val d) ρ = .ok d ρ := Eq.trans rfl rfl
theorem bnd_ap {m : M α} {f : α → M β} : bnd m f ρ = (m ρ).next f := Eq.trans rfl rfl
theorem next_ok {f : α → M β} {a : α} : (R.ok a ρ).next f = f a ρ := Eq.trans rfl rfl
theorem next_exc {f : α → M β} {x : Exn} : (R.exc x ρ : R α).next f = .exc x ρ := Eq.trans rfl rfl
theorem fl_ok {f : α → S} {a : α} : (R.ok a ρ).fl f = f a ρ := Eq.trans rfl rfl
theorem fl_exc {f : α → S} {x : Exn} : (R.exc x ρ : R α).fl f = .exc x ρ := Eq.trans rfl rfl
theorem exe_ap {m : M α} {f : α → S} : exe m f ρ = (m ρ).fl f := Eq.trans rfl rfl
theorem v_ap : v i ρ = (match ρ[i]? with | some (.val d) => .ok (.val d) ρ | _ => .stuck) := by
  unfold v readVal
  generalize ρ[i]? = z
  cases z with
  | none => rfl
  | some s => cases s <;> rfl
theorem b_ap : b i ρ = (match ρ[i]? with | some (.own k d) => if objD d then .ok (.bor i) ρ else .stuck | _ => .stuck) := by
  unfold b readOwn
  generalize ρ[i]? = z
  cases z with
  | none => rfl
  | some s =>
    cases s with
    | own k d => cases ho : objD d <;> simp [ho]
    | _ => rfl
theorem res_bor : res (.bor i) ρ = (match ρ[i]? with | some (.own k d) => if objD d then .ok d ρ else .stuck | _ => .stuck) := by
  show lift (readOwn i ρ) ρ = _
  unfold readOwn
  generalize ρ[i]? = z
  cases z with
  | none => rfl
  | some s =>
    cases s with
    | own k d => cases ho : objD d <;> simp [ho, lift]
    | _ => rfl
theorem bv_ap : bv i ρ = (match ρ[i]? with | some (.val d) => .ok (.val d) ρ | some (.own true d) => if isSeq d then .ok (.val d) (ρ.set i (.val d)) else .stuck | _ => .stuck) := Eq.trans rfl rfl
theorem isSeq_lst {xs : List D} : isSeq (.list xs) = true := Eq.trans rfl rfl
theorem e1_ap {g : D → Option D} : e1 g m ρ = (m ρ).next fun o => bnd (res o) fun d => bnd (lift (g d)) fun r => ret (.val r) := Eq.trans rfl rfl
theorem e2_ap {g : D → D → Option D} : e2 g m n ρ = (m ρ).next fun o => bnd n fun p => bnd (res o) fun d => bnd (res p) fun e => bnd (lift (g d e)) fun r => ret (.val r) := Eq.trans rfl rfl
theorem eN_ap {g : List D → Option D} {ms : List (M Opd)} : eN g ms ρ = (ops ms ρ).next fun os => bnd (ress os) fun ds => bnd (lift (g ds)) fun r => ret (.val r) := Eq.trans rfl rfl
theorem tup_ap {ms : List (M Opd)} : tup ms ρ = (ops ms ρ).next fun os => bnd (stabs os) fun ds => ret (.val (.tuple ds)) := Eq.trans rfl rfl
theorem lst_ap {ms : List (M Opd)} : lst ms ρ = (ops ms ρ).next fun os => bnd (stabs os) fun ds => ret (.val (.list ds)) := Eq.trans rfl rfl
theorem tst_ap : tst m ρ = (m ρ).next fun o => bnd (res o) fun d => lift (asB d) := Eq.trans rfl rfl
theorem andT_ap {s t : M Bool} : andT s t ρ = (s ρ).next fun x => if x then t else ret false := Eq.trans rfl rfl
theorem orT_ap {s t : M Bool} : orT s t ρ = (s ρ).next fun x => if x then ret true else t := Eq.trans rfl rfl
theorem notT_ap {s : M Bool} : notT s ρ = (s ρ).next fun x => ret (!x) := Eq.trans rfl rfl
theorem andV_ap : andV m n ρ = (tst m ρ).next fun x => if x then n else c (.bool false) := Eq.trans rfl rfl
theorem orV_ap : orV m n ρ = (tst m ρ).next fun x => if x then c (.bool true) else n := Eq.trans rfl rfl
theorem notV_ap : notV m ρ = (tst m ρ).next fun x => c (.bool (!x)) := Eq.trans rfl rfl
theorem iteV_ap {t : M Bool} : iteV t m n ρ = (t ρ).next fun x => if x then m else n := Eq.trans rfl rfl
theorem ops_nil : ops [] ρ = .ok [] ρ := Eq.trans rfl rfl
theorem ops_cons {ms : List (M Opd)} : ops (m :: ms) ρ = (m ρ).next fun o => bnd (ops ms) fun os => ret (o :: os) := Eq.trans rfl rfl
theorem ress_nil : ress [] ρ = .ok [] ρ := Eq.trans rfl rfl
theorem ress_cons {os : List Opd} : ress (o :: os) ρ = (res o ρ).next fun d => bnd (ress os) fun ds => ret (d :: ds) := Eq.trans rfl rfl
theorem stabs_nil : stabs [] ρ = .ok [] ρ := Eq.trans rfl rfl
theorem stabs_cons {os : List Opd} : stabs (o :: os) ρ = (stab o ρ).next fun d => bnd (stabs os) fun ds => ret (d :: ds) := Eq.trans rfl rfl
theorem ite_apM {p : Prop} [Decidable p] {f g : M α} : (if p then f else g) ρ = if p then f ρ else g ρ := by split <;> rfl
theorem ite_apS {p : Prop} [Decidable p] {f g : S} : (if p then f else g) ρ = if p then f ρ else g ρ := by split <;> rfl
def Fl.thn (f : Fl) (t : S) : Fl := match f with
  | .next ρ' => t ρ'
  | f => f
theorem seq_ap {s t : S} : seq s t ρ = (s ρ).thn t := Eq.trans rfl rfl
theorem thn_next {t : S} : (Fl.next ρ).thn t = t ρ := Eq.trans rfl rfl
theorem thn_rt {t : S} : (Fl.rt d ρ).thn t = .rt d ρ := Eq.trans rfl rfl
theorem thn_brk {t : S} : (Fl.brk ρ).thn t = .brk ρ := Eq.trans rfl rfl
theorem thn_cont {t : S} : (Fl.cont ρ).thn t = .cont ρ := Eq.trans rfl rfl
theorem thn_exc {t : S} {x : Exn} : (Fl.exc x ρ).thn t = .exc x ρ := Eq.trans rfl rfl
theorem objD_lst {xs : List D} : objD (.list xs) = true := Eq.trans rfl rfl
theorem objD_dict {xs : List (D × D)} : objD (.dict xs) = true := Eq.trans rfl rfl
theorem setD_0 {ds : List D} : setD (.int 0) x (.list (d :: ds)) = some (.list (x :: ds)) := by
  show (place (ds.length + 1) 0).map _ = _
  rw [show place (ds.length + 1) 0 = some 0 by unfold place; rw [if_pos (by decide), if_pos (by omega)]; rfl]
  rfl
theorem setD_1 {ds : List D} : setD (.int 1) x (.list (d :: e :: ds)) = some (.list (d :: x :: ds)) := by
  show (place (ds.length + 2) 1).map _ = _
  rw [show place (ds.length + 2) 1 = some 1 by unfold place; rw [if_pos (by decide), if_pos (by omega)]; rfl]
  rfl
theorem setD_nat {ds : List D} {k : Nat} (h : k < ds.length) : setD (.int (k : Int)) x (.list ds) = some (.list (ds.set k x)) := by
  show (place ds.length k).map _ = _
  rw [show place ds.length (k : Int) = some k by unfold place; rw [if_pos (by omega), if_pos (by omega)]; rfl]
  rfl
theorem appD_lst {ds : List D} (h : ds.length < 1000000) : appD x (.list ds) = some (.list (ds ++ [x])) := if_pos h
theorem skip_ap : skip ρ = .next ρ := Eq.trans rfl rfl
theorem setV_ap : setV i m ρ = (m ρ).fl fun o => exe (stab o) fun d => fun ρ => .next (ρ.set i (.val d)) := Eq.trans rfl rfl
theorem setO_ap : setO i m ρ = (m ρ).fl fun o => exe (stab o) fun d => fun ρ => .next (ρ.set i (.own true d)) := Eq.trans rfl rfl
theorem drop_ap : drop m ρ = (m ρ).fl fun _ => skip := Eq.trans rfl rfl
theorem retS_ap : retS m ρ = (m ρ).fl fun o => exe (stab o) fun d => fun ρ => .rt d ρ := Eq.trans rfl rfl
theorem ifS_ap {t : M Bool} {s u : S} : ifS t s u ρ = (t ρ).fl fun x => if x then s else u := Eq.trans rfl rfl
theorem setT_ap {t : Tg} : setT t m ρ = (m ρ).fl fun o => exe (res o) fun d => fun ρ => match tg t d ρ with | some ρ' => .next ρ' | none => .stuck := Eq.trans rfl rfl
theorem nl_ap : nl m ρ = (m ρ).next fun o => match o with | .val (.list ds) => ret (.val (.list ds)) | _ => fun _ => .stuck := Eq.trans rfl rfl
theorem callM_ap {f : FD} {ks : List Bool} {md : Bool} {ms : List (M Opd)} : callM f ks md ms ρ = (ops ms ρ).next (callO f ks md) := Eq.trans rfl rfl
theorem retO_ap : retO i ρ = (match ρ[i]? with | some (.own true d) => .rt d ρ | _ => .stuck) := Eq.trans rfl rfl
theorem chkL_ap : chkL i ρ = (match ρ[i]? with | some (.own _ (.list _)) => .ok () ρ | _ => .stuck) := by
  unfold chkL readOwn
  generalize ρ[i]? = z
  cases z with
  | none => rfl
  | some s =>
    cases s with
    | own k d => cases d <;> rfl
    | _ => rfl
theorem mutO_ap {g : D → Option D} : mutO g i ρ = (match ρ[i]? with | some (.own k d) => (match g d with | some d' => .next (ρ.set i (.own k d')) | none => .stuck) | _ => .stuck) := Eq.trans rfl rfl
theorem append_ap : append i m ρ = (chkL i ρ).fl fun _ => exe m fun o => exe (stab o) fun d => mutO (appD d) i := Eq.trans rfl rfl
theorem setIx_ap : setIx i m n ρ = (n ρ).fl fun o => exe (stab o) fun d => exe (chkL i) fun _ => exe m fun p => exe (res p) fun k => mutO (setD k d) i := Eq.trans rfl rfl
theorem mth_ap {T : D → Bool} {g : D → List D → Option D} {ms : List (M Opd)} : mth T g m ms ρ = (m ρ).next fun o => bnd (res o) fun d0 => bnd (lift (if T d0 then some () else none)) fun _ => bnd (ops ms) fun os => bnd (res o) fun d => bnd (ress os) fun ds => bnd (lift (g d ds)) fun r => ret (.val r) := Eq.trans rfl rfl
theorem forI_ap {im : M (List D)} {t : Tg} {s : S} : forI im t s ρ = (im ρ).fl fun ds => forN (ofL ds) always t s ds.length 0 := Eq.trans rfl rfl
theorem lcI_ap {im : M (List D)} {t : Tg} {js : List Nat} {ts : M Bool} {el : M Opd} : lcI im t js ts el ρ = (im ρ).next fun ds => lcO (ofL ds) always t js ts el ds.length := Eq.trans rfl rfl
theorem rangeM_ap {g : List D → Option (List D)} {ms : List (M Opd)} : rangeM g ms ρ = (ops ms ρ).next fun os => bnd (ress os) fun ds => lift (g ds) := Eq.trans rfl rfl
theorem itemsM_ap : itemsM m ρ = (m ρ).next fun o => bnd (stab o) fun d => lift (items d) := Eq.trans rfl rfl
end

/-- a comprehension that leaves its frame as it is -/
theorem lcN_map {ρ : Env} {t : Tg} {js : List Nat} {ts : M Bool} {el : M Opd} (f : D → D) (p : D → Bool) {ds : List D} {N k : Nat} {acc : List D}
    (h : ∀ d ∈ ds, ∃ ρ1, tg t d ρ = some ρ1 ∧ ts ρ1 = .ok (p d) ρ1 ∧ wipeD ρ1 js = ρ ∧ (p d = true → el ρ1 = .ok (.val (f d)) ρ1)) (hN : k + N = ds.length) :
    lcN (ofL ds) always t js ts el N k acc ρ = .ok (acc ++ ((ds.drop k).filter p).map f) ρ := by
  induction N generalizing k acc with
  | zero =>
    have e : ds.drop k = [] := List.drop_eq_nil_of_le (by omega)
    rw [e]
    show (if always ρ then R.ok acc ρ else .stuck) = _
    simp [always]
  | succ N ih =>
    have hk : k < ds.length := by omega
    have e : ds.drop k = ds[k] :: ds.drop (k + 1) := List.drop_eq_getElem_cons hk
    obtain ⟨ρ1, h1, h2, h3, h4⟩ := h ds[k] (List.getElem_mem hk)
    unfold lcN
    have e2 : ofL ds k ρ = some ds[k] := List.getElem?_eq_getElem hk
    simp only [e2, h1, h2, R.next]
    rw [e]
    cases hp : p ds[k] with
    | false =>
      simp only [Bool.false_eq_true, if_false, h3]
      rw [ih (by omega), List.filter_cons_of_neg (by rw [hp]; exact Bool.false_ne_true)]
    | true =>
      have h5 := h4 hp
      have e6 : bnd el stab ρ1 = .ok (f ds[k]) ρ1 := by unfold bnd; rw [h5]; rfl
      simp only [if_true, e6, R.next, h3]
      rw [ih (by omega), List.filter_cons_of_pos hp, List.map_cons, List.append_assoc, List.singleton_append]
theorem lcO_map {ρ : Env} {t : Tg} {js : List Nat} {ts : M Bool} {el : M Opd} (f : D → D) (p : D → Bool) {ds : List D}
    (h : ∀ d ∈ ds, ∃ ρ1, tg t d ρ = some ρ1 ∧ ts ρ1 = .ok (p d) ρ1 ∧ wipeD ρ1 js = ρ ∧ (p d = true → el ρ1 = .ok (.val (f d)) ρ1)) (hw : wipeD ρ js = ρ) (hb : backD ρ ρ js = ρ) (hl : ds.length ≤ 100000) :
    lcO (ofL ds) always t js ts el ds.length ρ = .ok (.val (.list ((ds.filter p).map f))) ρ := by
  unfold lcO
  rw [if_pos hl, hw, lcN_map f p h (by omega)]
  simp [hb]
/-- .. whatever stood in its names -/
theorem lcO_mapW {ρ ρ0 : Env} {t : Tg} {js : List Nat} {ts : M Bool} {el : M Opd} (f : D → D) (p : D → Bool) {ds : List D} (h0 : wipeD ρ js = ρ0)
    (h : ∀ d ∈ ds, ∃ ρ1, tg t d ρ0 = some ρ1 ∧ ts ρ1 = .ok (p d) ρ1 ∧ wipeD ρ1 js = ρ0 ∧ (p d = true → el ρ1 = .ok (.val (f d)) ρ1)) (hb : backD ρ ρ0 js = ρ) (hl : ds.length ≤ 100000) :
    lcO (ofL ds) always t js ts el ds.length ρ = .ok (.val (.list ((ds.filter p).map f))) ρ := by
  unfold lcO
  rw [if_pos hl, h0, lcN_map f p h (by omega)]
  simp [hb]
/-- .. over a list that is told by another one -/
theorem lcO_over {α : Type} {ρ : Env} {t : Tg} {js : List Nat} {ts : M Bool} {el : M Opd} (xs : List α) (g f : α → D) (p : α → Bool)
    (h : ∀ x ∈ xs, ∃ ρ1, tg t (g x) ρ = some ρ1 ∧ ts ρ1 = .ok (p x) ρ1 ∧ wipeD ρ1 js = ρ ∧ (p x = true → el ρ1 = .ok (.val (f x)) ρ1)) (hw : wipeD ρ js = ρ) (hb : backD ρ ρ js = ρ) (hl : xs.length ≤ 100000) :
    lcO (ofL (xs.map g)) always t js ts el (xs.map g).length ρ = .ok (.val (.list ((xs.filter p).map f))) ρ := by
  have main : ∀ (N k : Nat) (acc : List D), k + N = xs.length → lcN (ofL (xs.map g)) always t js ts el N k acc ρ = .ok (acc ++ ((xs.drop k).filter p).map f) ρ := by
    intro N
    induction N with
    | zero =>
      intro k acc hN
      have e : xs.drop k = [] := List.drop_eq_nil_of_le (by omega)
      rw [e]
      show (if always ρ then R.ok acc ρ else .stuck) = _
      simp [always]
    | succ N ih =>
      intro k acc hN
      have hk : k < xs.length := by omega
      have e : xs.drop k = xs[k] :: xs.drop (k + 1) := List.drop_eq_getElem_cons hk
      obtain ⟨ρ1, h1, h2, h3, h4⟩ := h xs[k] (List.getElem_mem hk)
      unfold lcN
      have e2 : ofL (xs.map g) k ρ = some (g xs[k]) := by
        show (xs.map g)[k]? = _
        rw [List.getElem?_map, List.getElem?_eq_getElem hk]
        rfl
      simp only [e2, h1, h2, R.next]
      rw [e]
      cases hp : p xs[k] with
      | false =>
        simp only [Bool.false_eq_true, if_false, h3]
        rw [ih _ _ (by omega), List.filter_cons_of_neg (by rw [hp]; exact Bool.false_ne_true)]
      | true =>
        have h5 := h4 hp
        have e6 : bnd el stab ρ1 = .ok (f xs[k]) ρ1 := by unfold bnd; rw [h5]; rfl
        simp only [if_true, e6, R.next, h3]
        rw [ih _ _ (by omega), List.filter_cons_of_pos hp, List.map_cons, List.append_assoc, List.singleton_append]
  unfold lcO
  rw [if_pos (by rw [List.length_map]; exact hl), hw, List.length_map, main xs.length 0 [] (by omega)]
  simp [hb]
theorem filter_all {α : Type} {xs : List α} : (xs.filter fun _ => true) = xs := List.filter_eq_self.mpr fun _ _ => rfl
/-- a loop that hands back at the first item that is not as it should be -/
theorem forN_all {ds : List D} {t : Tg} {s : S} {N : Nat} {ρ : Env} {f : Fl} (hf : forN (ofL ds) always t s N 0 ρ = f) (hN : N = ds.length) (ok : D → Bool) (P : Nat → Env → Prop) (Q : D → Env → Prop) (h0 : P 0 ρ)
    (step : ∀ k d ρ, ds[k]? = some d → P k ρ → ∃ ρ1, tg t d ρ = some ρ1 ∧ ((ok d = true ∧ ∃ ρ2, (s ρ1 = .next ρ2 ∨ s ρ1 = .cont ρ2) ∧ P (k + 1) ρ2) ∨ (ok d = false ∧ ∃ d' ρ', s ρ1 = .rt d' ρ' ∧ Q d' ρ'))) :
    (ds.all ok = true ∧ ∃ ρ', f = .next ρ' ∧ P ds.length ρ') ∨ (ds.all ok = false ∧ ∃ d' ρ', f = .rt d' ρ' ∧ Q d' ρ') := by
  subst hf hN
  have main : ∀ (N k : Nat) (ρ : Env), k + N = ds.length → (ds.take k).all ok = true → P k ρ →
      (ds.all ok = true ∧ ∃ ρ', forN (ofL ds) always t s N k ρ = .next ρ' ∧ P ds.length ρ') ∨ (ds.all ok = false ∧ ∃ d' ρ', forN (ofL ds) always t s N k ρ = .rt d' ρ' ∧ Q d' ρ') := by
    intro N
    induction N with
    | zero =>
      intro k ρ hk ha hP
      have : k = ds.length := by omega
      subst this
      rw [List.take_length] at ha
      exact .inl ⟨ha, ρ, by simp [forN, always], hP⟩
    | succ N ih =>
      intro k ρ hk ha hP
      have hlt : k < ds.length := by omega
      have e : ds[k]? = some ds[k] := List.getElem?_eq_getElem hlt
      have e2 : ofL ds k ρ = some ds[k] := e
      obtain ⟨ρ1, h1, h2⟩ := step k _ ρ e hP
      rcases h2 with ⟨hok, ρ2, h3, h4⟩ | ⟨hok, d', ρ', h3, h4⟩
      · have ha2 : (ds.take (k + 1)).all ok = true := by
          rw [List.take_add_one, e, List.all_append, ha]
          simp [hok]
        have := ih (k + 1) ρ2 (by omega) ha2 h4
        unfold forN
        rcases h3 with h3 | h3
        · simp only [e2, h1, h3]; exact this
        · simp only [e2, h1, h3]; exact this
      · refine .inr ⟨?_, d', ρ', ?_, h4⟩
        · rw [List.all_eq_false]
          exact ⟨ds[k], List.getElem_mem hlt, by rw [hok]; exact Bool.false_ne_true⟩
        · unfold forN
          simp only [e2, h1, h3]
  exact main ds.length 0 ρ (by omega) (by simp) h0
def intP (p : Nat → Bool) : D → Bool
  | .int i => p i.toNat
  | _ => false
theorem filter_ints (p : Nat → Bool) (ks : List Nat) : (ks.map fun k => PyData.int (k : Nat)).filter (intP p) = (ks.filter p).map fun k => PyData.int (k : Nat) := by
  rw [List.filter_map]
  rfl
/-- a comprehension whose element changes the frame -/
theorem lcO_st {ds : List D} {t : Tg} {js : List Nat} {ts : M Bool} {el : M Opd} {ρ : Env} (P : Nat → List D → Env → Prop) (hl : ds.length ≤ 100000) (h0 : P 0 [] (wipeD ρ js))
    (step : ∀ k d acc ρ, ds[k]? = some d → P k acc ρ → ∃ ρ1 y ρ2, tg t d ρ = some ρ1 ∧ ts ρ1 = .ok true ρ1 ∧ el ρ1 = .ok (.val y) ρ2 ∧ P (k + 1) (acc ++ [y]) (wipeD ρ2 js)) :
    ∃ rs ρ', lcO (ofL ds) always t js ts el ds.length ρ = .ok (.val (.list rs)) (backD ρ ρ' js) ∧ P ds.length rs ρ' := by
  have main : ∀ (N k : Nat) (acc : List D) (ρ : Env), k + N = ds.length → P k acc ρ → ∃ rs ρ', lcN (ofL ds) always t js ts el N k acc ρ = .ok rs ρ' ∧ P ds.length rs ρ' := by
    intro N
    induction N with
    | zero =>
      intro k acc ρ hk hP
      have : k = ds.length := by omega
      subst this
      exact ⟨acc, ρ, by simp [lcN, always], hP⟩
    | succ N ih =>
      intro k acc ρ hk hP
      have hlt : k < ds.length := by omega
      have e : ds[k]? = some ds[k] := List.getElem?_eq_getElem hlt
      obtain ⟨ρ1, y, ρ2, h1, h2, h3, h4⟩ := step k _ acc ρ e hP
      obtain ⟨rs, ρ', h5, h6⟩ := ih (k + 1) (acc ++ [y]) _ (by omega) h4
      refine ⟨rs, ρ', ?_, h6⟩
      have e2 : ofL ds k ρ = some ds[k] := e
      have e3 : bnd el stab ρ1 = .ok y ρ2 := by unfold bnd; rw [h3]; rfl
      unfold lcN
      simp only [e2, h1, h2, R.next, if_true, e3]
      exact h5
  obtain ⟨rs, ρ', h1, h2⟩ := main ds.length 0 [] _ (by omega) h0
  refine ⟨rs, ρ', ?_, h2⟩
  unfold lcO
  rw [if_pos hl, h1]
/-- a loop whose turns all go on -/
theorem forN_inv {ds : List D} {t : Tg} {s : S} (P : Nat → Env → Prop) {ρ : Env} (h0 : P 0 ρ)
    (step : ∀ k d ρ, ds[k]? = some d → P k ρ → ∃ ρ1, tg t d ρ = some ρ1 ∧ ∃ ρ2, (s ρ1 = .next ρ2 ∨ s ρ1 = .cont ρ2) ∧ P (k + 1) ρ2) : ∃ ρ', forN (ofL ds) always t s ds.length 0 ρ = .next ρ' ∧ P ds.length ρ' := by
  have main : ∀ (N k : Nat) (ρ : Env), k + N = ds.length → P k ρ → ∃ ρ', forN (ofL ds) always t s N k ρ = .next ρ' ∧ P ds.length ρ' := by
    intro N
    induction N with
    | zero =>
      intro k ρ hk hP
      have : k = ds.length := by omega
      subst this
      exact ⟨ρ, by simp [forN, always], hP⟩
    | succ N ih =>
      intro k ρ hk hP
      have hlt : k < ds.length := by omega
      have e : ds[k]? = some ds[k] := List.getElem?_eq_getElem hlt
      obtain ⟨ρ1, h1, ρ2, h2, h3⟩ := step k _ ρ e hP
      obtain ⟨ρ', h4, h5⟩ := ih (k + 1) ρ2 (by omega) h3
      refine ⟨ρ', ?_, h5⟩
      have e2 : ofL ds k ρ = some ds[k] := e
      unfold forN
      rcases h2 with h2 | h2
      · simp only [e2, h1, h2]; exact h4
      · simp only [e2, h1, h2]; exact h4
  exact main _ _ _ (by omega) h0

/-! ### the operations, at values as they are -/
section
variable {i j : Int} {x y d e : D} {xs ys : List D} {a b : Bool} {s t : Str}
theorem asB_bool : asB (.bool a) = some a := Eq.trans rfl rfl
theorem addD_int : addD (.int i) (.int j) = some (.int (i + j)) := Eq.trans rfl rfl
theorem subD_int : subD (.int i) (.int j) = some (.int (i - j)) := Eq.trans rfl rfl
theorem mulD_int (h : mulOk i j = true) : mulD (.int i) (.int j) = some (.int (i * j)) := by exact if_pos h
theorem mulD_tup (h1 : -1000 ≤ i) (h2 : i ≤ 1000) : mulD (.tuple [x]) (.int i) = some (.tuple (List.replicate i.toNat x)) := by exact if_pos ⟨h1, h2⟩
theorem addD_tup (h : xs.length + ys.length ≤ 16000000) : addD (.tuple xs) (.tuple ys) = some (.tuple (xs ++ ys)) := by unfold addD; simp [h]
theorem addD_lst (h : xs.length + ys.length ≤ 16000000) : addD (.list xs) (.list ys) = some (.list (xs ++ ys)) := by unfold addD; simp [h]
theorem addL_lst (h : xs.length + ys.length ≤ 16000000) : addL (.list xs) (.list ys) = some (.list (xs ++ ys)) := by unfold addL; simp [h]
theorem fdivD_int (h : fdivOk j = true) : fdivD (.int i) (.int j) = some (.int (i / j)) := by
  unfold fdivOk at h
  rw [Bool.and_eq_true] at h
  have h1 := of_decide_eq_true h.1
  have h2 := of_decide_eq_true h.2
  have e : fdivOkN j = true := by unfold fdivOkN; rw [decide_eq_true (by omega), decide_eq_true h2]; rfl
  show (if fdivOkN j then some (PyData.int (i.fdiv j)) else none) = _
  rw [if_pos e, Int.fdiv_eq_ediv_of_nonneg i (by omega)]
theorem fdivD_neg (h : fdivOkN j = true) : fdivD (.int i) (.int j) = some (.int (i.fdiv j)) := if_pos h
theorem modD_int (h : 0 < j) : modD (.int i) (.int j) = some (.int (i % j)) := by exact if_pos h
theorem powD_int (h : 0 ≤ j ∧ j ≤ 1000000 ∧ i.natAbs < 18446744073709551616) : powD (.int i) (.int j) = some (.int (i ^ j.toNat)) := by exact if_pos h
theorem negD_int : negD (.int i) = some (.int (-i)) := Eq.trans rfl rfl
theorem ltD_int : ltD (.int i) (.int j) = some (.bool (decide (i < j))) := Eq.trans rfl rfl
theorem leD_int : leD (.int i) (.int j) = some (.bool (decide (i ≤ j))) := Eq.trans rfl rfl
theorem gtD_int : gtD (.int i) (.int j) = some (.bool (decide (j < i))) := Eq.trans rfl rfl
theorem geD_int : geD (.int i) (.int j) = some (.bool (decide (j ≤ i))) := Eq.trans rfl rfl
theorem eqD_int : eqD (.int i) (.int j) = some (.bool (decide (i = j))) := by
  unfold eqD
  simp [er, eqOk, noD, PyData.depth, PyData.eqv, Bool.beq_eq_decide_eq]
theorem neD_int : neD (.int i) (.int j) = some (.bool (decide (i ≠ j))) := by
  unfold neD
  simp [er, eqOk, noD, PyData.depth, PyData.eqv, Bool.beq_eq_decide_eq]
theorem eqD_str : eqD (.str s) (.str t) = some (.bool (s == t)) := by
  unfold eqD
  simp [er, eqOk, noD, PyData.depth, PyData.eqv]
theorem neD_str : neD (.str s) (.str t) = some (.bool (!(s == t))) := by
  unfold neD
  simp [er, eqOk, noD, PyData.depth, PyData.eqv]
theorem ixD_lst : ixD (.list xs) (.int i) = at_ xs i := Eq.trans rfl rfl
theorem ixD_tup : ixD (.tuple xs) (.int i) = at_ xs i := Eq.trans rfl rfl
theorem at_nat {α : Type} {xs : List α} (k : Nat) (h : k < xs.length) : at_ xs (k : Int) = xs[k]? := by
  unfold at_ place
  rw [if_pos (Int.natCast_nonneg k), if_pos (by omega)]
  rfl
theorem at_0 {α : Type} {x : α} {xs : List α} : at_ (x :: xs) 0 = some x := by
  unfold at_ place
  rw [if_pos (by decide), if_pos (by simp)]
  rfl
theorem at_1 {α : Type} {x y : α} {xs : List α} : at_ (x :: y :: xs) 1 = some y := by
  unfold at_ place
  rw [if_pos (by decide), if_pos (by simp; omega)]
  rfl
theorem at_2 {α : Type} {x y z : α} {xs : List α} : at_ (x :: y :: z :: xs) 2 = some z := by
  unfold at_ place
  rw [if_pos (by decide), if_pos (by simp; omega)]
  rfl
theorem at_3 {α : Type} {x y z w : α} {xs : List α} : at_ (x :: y :: z :: w :: xs) 3 = some w := by
  unfold at_ place
  rw [if_pos (by decide), if_pos (by simp; omega)]
  rfl
theorem at_4 {α : Type} {x y z w u : α} {xs : List α} : at_ (x :: y :: z :: w :: u :: xs) 4 = some u := by
  unfold at_ place
  rw [if_pos (by decide), if_pos (by simp; omega)]
  rfl
theorem at_5 {α : Type} {x y z w u v : α} {xs : List α} : at_ (x :: y :: z :: w :: u :: v :: xs) 5 = some v := by
  unfold at_ place
  rw [if_pos (by decide), if_pos (by simp; omega)]
  rfl
theorem lenD_lst : lenD [.list xs] = some (.int xs.length) := Eq.trans rfl rfl
theorem lenD_tup : lenD [.tuple xs] = some (.int xs.length) := Eq.trans rfl rfl
theorem absD_int : absD [.int i] = some (.int i.natAbs) := by
  show some (PyData.int (if i < 0 then -i else i)) = _
  congr 2
  split <;> omega
theorem intD_int : intD [.int i] = some (.int i) := Eq.trans rfl rfl
theorem intD_bool : intD [.bool a] = some (.int (if a then 1 else 0)) := Eq.trans rfl rfl
theorem listD_lst : listD [.list xs] = some (.list xs) := Eq.trans rfl rfl
theorem listD_tup : listD [.tuple xs] = some (.list xs) := Eq.trans rfl rfl
theorem tupleD_lst : tupleD [.list xs] = some (.tuple xs) := Eq.trans rfl rfl
theorem tupleD_tup : tupleD [.tuple xs] = some (.tuple xs) := Eq.trans rfl rfl
theorem max2D_int : max2D [.int i, .int j] = some (.int (max i j)) := by
  show some (PyData.int (if j > i then j else i)) = _
  congr 2
  rw [Int.max_def]
  split <;> split <;> omega
theorem min2D_int : min2D [.int i, .int j] = some (.int (min i j)) := by
  show some (PyData.int (if j < i then j else i)) = _
  congr 2
  rw [Int.min_def]
  split <;> split <;> omega
theorem range1_int (h1 : -(2 ^ 62) ≤ i) (h2 : i < 2 ^ 62) : range1 [.int i] = some (rangeL 0 i) := by
  exact if_pos (by unfold small; rw [decide_eq_true h1, decide_eq_true h2]; rfl)
theorem range2_int (h1 : -(2 ^ 62) ≤ i) (h2 : i < 2 ^ 62) (h3 : -(2 ^ 62) ≤ j) (h4 : j < 2 ^ 62) : range2 [.int i, .int j] = some (rangeL i j) := by
  exact if_pos (by unfold small; rw [decide_eq_true h1, decide_eq_true h2, decide_eq_true h3, decide_eq_true h4]; rfl)
theorem rangeL_nat (n : Nat) : rangeL 0 n = (List.range n).map fun k => .int (k : Nat) := by
  unfold rangeL
  simp
theorem all_ints (p : Nat → Bool) (n : Nat) : ((rangeL 0 n).all (intP p)) = (List.range n).all p := by
  rw [rangeL_nat, List.all_map]
  rfl
theorem rangeL_len (i j : Int) : (rangeL i j).length = (j - i).toNat := by unfold rangeL; simp
theorem rangeL_get {i j : Int} {k : Nat} (h : (rangeL i j)[k]? = some d) : d = .int (i + k) ∧ i + k < j := by
  unfold rangeL at h
  rw [List.getElem?_map] at h
  cases hk : (List.range (j - i).toNat)[k]? with
  | none => rw [hk] at h; cases h
  | some z =>
    rw [hk] at h
    have := List.getElem?_eq_some_iff.mp hk
    obtain ⟨h1, h2⟩ := this
    rw [List.getElem_range] at h2
    subst h2
    cases h
    rw [List.length_range] at h1
    exact ⟨rfl, by omega⟩
theorem items_lst : items (.list xs) = some xs := Eq.trans rfl rfl
theorem items_tup : items (.tuple xs) = some xs := Eq.trans rfl rfl
theorem isi_int {T : String} : isiD T (.int i) = some (.bool ("int" == T)) := by simp [isiD, tyName]
theorem isi_bool {T : String} : isiD T (.bool a) = some (.bool ("bool" == T || T == "int")) := by simp [isiD, tyName]
theorem isi_str {T : String} : isiD T (.str s) = some (.bool ("str" == T)) := by simp [isiD, tyName]
theorem isi_lst {T : String} : isiD T (.list xs) = some (.bool ("list" == T)) := by simp [isiD, tyName]
theorem isi_tup {T : String} : isiD T (.tuple xs) = some (.bool ("tuple" == T)) := by simp [isiD, tyName]
theorem isi_non {T : String} : isiD T .none = some (.bool ("NoneType" == T)) := by simp [isiD, tyName]
theorem fl_map {ρ : Env} {g : Env → Option Env} : (Fl.next ρ).map g = (g ρ).elim .stuck .next := Eq.trans rfl rfl
end
section
variable {ks : List Bool} {md : Bool} {d : D} {ρ : Env} {s : Slot} {x : Exn}
theorem finD_rt : finD ks md (.rt d ρ) = (outsOf ks ρ).elim .stuck (.ok d) := Eq.trans rfl rfl
theorem finD_exc : finD ks md (.exc x ρ) = (outsOf ks ρ).elim .stuck (.exc x) := Eq.trans rfl rfl
theorem finD_nx : finD ks false (.next ρ) = (outsOf ks ρ).elim .stuck (.ok .none) := Eq.trans rfl rfl
theorem outs_nil : outsOf [] ρ = some [] := by cases ρ <;> rfl
theorem outs_f : outsOf (false :: ks) (s :: ρ) = outsOf ks ρ := Eq.trans rfl rfl
theorem outs_t : outsOf (true :: ks) (.own false d :: ρ) = (outsOf ks ρ).map (d :: ·) := Eq.trans rfl rfl
theorem runD_ap {more : Nat} {body : S} {ds : List D} (h : ds.length = ks.length) : runD ks md more body ds = finD ks md (body (entry ks ds ++ List.replicate more .un)) := if_pos h
theorem entry_nil {ds : List D} : entry [] ds = [] := by cases ds <;> rfl
theorem entry_f {ds : List D} : entry (false :: ks) (d :: ds) = .val d :: entry ks ds := Eq.trans rfl rfl
theorem entry_t {ds : List D} : entry (true :: ks) (d :: ds) = .own false d :: entry ks ds := Eq.trans rfl rfl
end
/-- a call of a def whose parameters it only reads -/
theorem argD_val {ρ : Env} {d : D} : argD ρ false (.val d) = some d := Eq.trans rfl rfl
theorem argD_bor {ρ : Env} {i : Nat} {k k2 : Bool} {ds : List D} (h : ρ[i]? = some (.own k2 (.list ds))) : argD ρ k (.bor i) = some (.list ds) := by
  have e : readOwn i ρ = some (.list ds) := by unfold readOwn; rw [h]; rfl
  show (match readOwn i ρ with | some d => if k then some d else if isSeq d then some d else none | none => none) = _
  rw [e]
  cases k <;> rfl
section
variable {ρ : Env} {f : FD} {md : Bool} {a b x y d e : D} {x' : Exn}
theorem call_v1 (h : f [a] = .ok d []) : callO f [false] md [.val a] ρ = .ok (.val d) ρ := by
  show (match f [a] with
      | .ok d outs => if okOut [false] [.val a] (if md then immO d else imm d) outs = true then (putOut ρ [] outs).elim .stuck fun ρ' => .ok (.val d) ρ' else .stuck
      | .exc xx outs => if okOut [false] [.val a] (xx.fs.all fun p => imm p.2) outs = true then (putOut ρ [] outs).elim .stuck fun ρ' => .exc xx ρ' else .stuck
      | .stuck => .stuck : R Opd) = _
  rw [h]
  rfl
theorem call_v2 (h : f [a, b] = .ok d []) : callO f [false, false] md [.val a, .val b] ρ = .ok (.val d) ρ := by
  show (match f [a, b] with
      | .ok d outs => if okOut [false, false] [.val a, .val b] (if md then immO d else imm d) outs = true then (putOut ρ [] outs).elim .stuck fun ρ' => .ok (.val d) ρ' else .stuck
      | .exc xx outs => if okOut [false, false] [.val a, .val b] (xx.fs.all fun p => imm p.2) outs = true then (putOut ρ [] outs).elim .stuck fun ρ' => .exc xx ρ' else .stuck
      | .stuck => .stuck : R Opd) = _
  rw [h]
  rfl
theorem call_v3 (h : f [a, b, x] = .ok d []) : callO f [false, false, false] md [.val a, .val b, .val x] ρ = .ok (.val d) ρ := by
  show (match f [a, b, x] with
      | .ok d outs => if okOut [false, false, false] [.val a, .val b, .val x] (if md then immO d else imm d) outs = true then (putOut ρ [] outs).elim .stuck fun ρ' => .ok (.val d) ρ' else .stuck
      | .exc xx outs => if okOut [false, false, false] [.val a, .val b, .val x] (xx.fs.all fun p => imm p.2) outs = true then (putOut ρ [] outs).elim .stuck fun ρ' => .exc xx ρ' else .stuck
      | .stuck => .stuck : R Opd) = _
  rw [h]
  rfl
theorem call_v4 (h : f [a, b, x, y] = .ok d []) : callO f [false, false, false, false] md [.val a, .val b, .val x, .val y] ρ = .ok (.val d) ρ := by
  show (match f [a, b, x, y] with
      | .ok d outs => if okOut [false, false, false, false] [.val a, .val b, .val x, .val y] (if md then immO d else imm d) outs = true then (putOut ρ [] outs).elim .stuck fun ρ' => .ok (.val d) ρ' else .stuck
      | .exc xx outs => if okOut [false, false, false, false] [.val a, .val b, .val x, .val y] (xx.fs.all fun p => imm p.2) outs = true then (putOut ρ [] outs).elim .stuck fun ρ' => .exc xx ρ' else .stuck
      | .stuck => .stuck : R Opd) = _
  rw [h]
  rfl
/-- the first argument is changed, the second a value -/
theorem call_m1 {i : Nat} {k : Bool} {ds ds' : List D} (hi : ρ[i]? = some (.own k (.list ds))) (h : f [.list ds, b] = .ok d [.list ds']) : callO f [true, false] md [.bor i, .val b] ρ = .ok (.val d) (ρ.set i (.own k (.list ds'))) := by
  unfold callO
  have e : argDs ρ [true, false] [.bor i, .val b] = some [.list ds, b] := by
    show (argD ρ true (.bor i)).bind _ = _
    rw [argD_bor hi]
    rfl
  rw [e]
  simp only
  rw [if_pos (by simp [okC, chg, lent]), h]
  simp only
  rw [if_pos (by simp [okOut, lent])]
  show (putOut ρ [i] [.list ds']).elim R.stuck _ = _
  have e2 : putOut ρ [i] [.list ds'] = some (ρ.set i (.own k (.list ds'))) := by
    show (match ρ[i]? with | some (.own k _) => some (ρ.set i (.own k (.list ds'))) | _ => none) = _
    rw [hi]
  rw [e2]
  rfl
end
section
variable {ρ : Env} {f : FD} {md : Bool} {b d : D} {s0 s1 s2 s3 : Slot} {k : Bool} {ds ds' : List D}
theorem call_m10 (h : f [.list ds, b] = .ok d [.list ds']) : callO f [true, false] md [.bor 0, .val b] (.own k (.list ds) :: ρ) = .ok (.val d) (.own k (.list ds') :: ρ) := call_m1 rfl h
theorem call_m30 {x : D} (h : f [.list ds, b, x] = .ok d [.list ds']) : callO f [true, false, false] md [.bor 0, .val b, .val x] (.own k (.list ds) :: ρ) = .ok (.val d) (.own k (.list ds') :: ρ) := by
  unfold callO
  have e : argDs (.own k (.list ds) :: ρ) [true, false, false] [.bor 0, .val b, .val x] = some [.list ds, b, x] := by
    show (argD (.own k (.list ds) :: ρ) true (.bor 0)).bind _ = _
    rw [argD_bor (ρ := .own k (.list ds) :: ρ) (i := 0) (k2 := k) (ds := ds) rfl]
    rfl
  rw [e]
  simp only
  rw [if_pos (by simp [okC, chg, lent]), h]
  simp only
  rw [if_pos (by simp [okOut, lent])]
  rfl
theorem call_m11 (h : f [.list ds, b] = .ok d [.list ds']) : callO f [true, false] md [.bor 1, .val b] (s0 :: .own k (.list ds) :: ρ) = .ok (.val d) (s0 :: .own k (.list ds') :: ρ) := call_m1 rfl h
theorem call_m16 {s4 s5 : Slot} (h : f [.list ds, b] = .ok d [.list ds']) : callO f [true, false] md [.bor 6, .val b] (s0 :: s1 :: s2 :: s3 :: s4 :: s5 :: .own k (.list ds) :: ρ) = .ok (.val d) (s0 :: s1 :: s2 :: s3 :: s4 :: s5 :: .own k (.list ds') :: ρ) := call_m1 rfl h
theorem call_m12 (h : f [.list ds, b] = .ok d [.list ds']) : callO f [true, false] md [.bor 2, .val b] (s0 :: s1 :: .own k (.list ds) :: ρ) = .ok (.val d) (s0 :: s1 :: .own k (.list ds') :: ρ) := call_m1 rfl h
theorem call_m13 (h : f [.list ds, b] = .ok d [.list ds']) : callO f [true, false] md [.bor 3, .val b] (s0 :: s1 :: s2 :: .own k (.list ds) :: ρ) = .ok (.val d) (s0 :: s1 :: s2 :: .own k (.list ds') :: ρ) := call_m1 rfl h
end
/-- the second argument is lent to be read -/
theorem call_vb {ρ : Env} {f : FD} {i : Nat} {k : Bool} {ds : List D} {a d : D} (hi : ρ[i]? = some (.own k (.list ds))) (h : f [a, .list ds] = .ok d []) (hd : imm d = true) : callO f [false, false] false [.val a, .bor i] ρ = .ok (.val d) ρ := by
  unfold callO
  have e : argDs ρ [false, false] [.val a, .bor i] = some [a, .list ds] := by
    show ((argD ρ false (.bor i)).bind _).map _ = _
    rw [argD_bor hi]
    rfl
  rw [e]
  simp only
  rw [if_pos (by simp [okC, chg, lent]), h]
  simp only
  rw [if_pos (by simp [okOut, lent, hd])]
  rfl
/-- a loop whose turns all go on, found in a goal -/
theorem forN_inv' {ds : List D} {t : Tg} {s : S} {N : Nat} {ρ : Env} {f : Fl} (hf : forN (ofL ds) always t s N 0 ρ = f) (hN : N = ds.length) (P : Nat → Env → Prop) (h0 : P 0 ρ)
    (step : ∀ k d ρ, ds[k]? = some d → P k ρ → ∃ ρ1, tg t d ρ = some ρ1 ∧ ∃ ρ2, (s ρ1 = .next ρ2 ∨ s ρ1 = .cont ρ2) ∧ P (k + 1) ρ2) : ∃ ρ', f = .next ρ' ∧ P ds.length ρ' := by
  subst hN
  obtain ⟨ρ', h1, h2⟩ := forN_inv P h0 step
  exact ⟨ρ', hf.symm.trans h1, h2⟩
theorem plain_eqv {d : D} (h : d.plain = true) : PyData.eqv d d = true := PySem.SeqAt.eqv_refl_plain d h
/-- data of ints alone, not deep -/
def Good (n : Nat) (d : D) : Prop := d.plain = true ∧ d.depth ≤ n
theorem good_int {i : Int} {n : Nat} : Good n (.int i) := ⟨rfl, Nat.zero_le _⟩
theorem good_bool {i : Bool} {n : Nat} : Good n (.bool i) := ⟨rfl, Nat.zero_le _⟩
theorem good_str {i : Str} {n : Nat} : Good n (.str i) := ⟨rfl, Nat.zero_le _⟩
theorem good_all {xs : List D} {n : Nat} (h : ∀ x ∈ xs, Good n x) : PyData.plainAll xs = true ∧ PyData.depthAll xs ≤ n := by
  induction xs with
  | nil => exact ⟨rfl, Nat.zero_le _⟩
  | cons x xs ih =>
    obtain ⟨h1, h2⟩ := h x List.mem_cons_self
    obtain ⟨h3, h4⟩ := ih fun y hy => h y (List.mem_cons_of_mem _ hy)
    exact ⟨by simp [PyData.plainAll, h1, h3], by simp [PyData.depthAll]; omega⟩
theorem good_tup {xs : List D} {n : Nat} (h : ∀ x ∈ xs, Good n x) : Good (n + 1) (.tuple xs) := by
  obtain ⟨h1, h2⟩ := good_all h
  exact ⟨by simp [PyData.plain, h1], by simp [PyData.depth]; omega⟩
theorem good_lst {xs : List D} {n : Nat} (h : ∀ x ∈ xs, Good n x) : Good (n + 1) (.list xs) := by
  obtain ⟨h1, h2⟩ := good_all h
  exact ⟨by simp [PyData.plain, h1], by simp [PyData.depth]; omega⟩
theorem Good.mono {n m : Nat} {d : D} (h : Good n d) (hm : n ≤ m) : Good m d := ⟨h.1, Nat.le_trans h.2 hm⟩
/-- .. sums as tuples -/
def GoodE (n : Nat) (d : D) : Prop := Good n (er d)
theorem Good.e {n : Nat} {d : D} (h : Good n d) : GoodE n d := by unfold GoodE; rw [er_plain h.1]; exact h
theorem goodE_all {xs : List D} {n : Nat} (h : ∀ x ∈ xs, GoodE n x) : ∀ x ∈ ers xs, Good n x := fun x hx => by
  rw [ers_map] at hx
  obtain ⟨y, hy, rfl⟩ := List.mem_map.mp hx
  exact h y hy
theorem goodE_tup {xs : List D} {n : Nat} (h : ∀ x ∈ xs, GoodE n x) : GoodE (n + 1) (.tuple xs) := by unfold GoodE; rw [er_tup]; exact good_tup (goodE_all h)
theorem goodE_lst {xs : List D} {n : Nat} (h : ∀ x ∈ xs, GoodE n x) : GoodE (n + 1) (.list xs) := by unfold GoodE; rw [er_lst]; exact good_lst (goodE_all h)
theorem goodE_fz {xs : List D} {n : Nat} (h : ∀ x ∈ xs, GoodE n x) : GoodE (n + 1) (fzD xs) := by unfold GoodE; rw [er_sum]; exact good_tup (goodE_all h)
theorem GoodE.mono {n m : Nat} {d : D} (h : GoodE n d) (hm : n ≤ m) : GoodE m d := Good.mono h hm
theorem neD_selfE {d : D} (h : GoodE 100 d) : neD d d = some (.bool false) := by
  unfold neD
  have e : eqOk (er d) (er d) = true := by unfold eqOk; rw [Nat.min_self]; exact decide_eq_true h.2
  rw [e, noD_plain h.1, plain_eqv h.1]
  rfl
theorem neD_self {d : D} (h : Good 100 d) : neD d d = some (.bool false) := neD_selfE h.e
theorem eqD_selfE {d : D} (h : GoodE 100 d) : eqD d d = some (.bool true) := by
  unfold eqD
  have e : eqOk (er d) (er d) = true := by unfold eqOk; rw [Nat.min_self]; exact decide_eq_true h.2
  rw [e, noD_plain h.1, plain_eqv h.1]
  rfl
theorem eqD_self {d : D} (h : Good 100 d) : eqD d d = some (.bool true) := eqD_selfE h.e
theorem eqv_ints (xs ys : List Int) : PyData.eqvAll (xs.map PyData.int) (ys.map PyData.int) = decide (xs = ys) := by
  induction xs generalizing ys with
  | nil => cases ys <;> simp [PyData.eqvAll]
  | cons x xs ih => cases ys with
    | nil => simp [PyData.eqvAll]
    | cons y ys =>
      simp only [List.map_cons, PyData.eqvAll, ih, PyData.eqv]
      by_cases h : x = y <;> simp [h]
theorem good_ints (xs : List Int) : ∀ x ∈ xs.map PyData.int, Good 0 x := fun x hx => by
  obtain ⟨y, _, rfl⟩ := List.mem_map.mp hx
  exact good_int
theorem eqOk_good {d e : D} (h : Good 100 d) : eqOk d e = true := by
  unfold eqOk
  exact decide_eq_true (Nat.le_trans (Nat.min_le_left _ _) h.2)
theorem eqL_ints (xs ys : List Int) : eqD (.list (xs.map PyData.int)) (.list (ys.map PyData.int)) = some (.bool (decide (xs = ys))) := by
  unfold eqD
  rw [er_plain (good_lst (good_ints xs)).1, er_plain (good_lst (good_ints ys)).1, eqOk_good ((good_lst (good_ints xs)).mono (by decide))]
  simp [noD, PyData.eqv, eqv_ints]
theorem neL_ints (xs ys : List Int) : neD (.list (xs.map PyData.int)) (.list (ys.map PyData.int)) = some (.bool (!decide (xs = ys))) := by
  unfold neD
  rw [er_plain (good_lst (good_ints xs)).1, er_plain (good_lst (good_ints ys)).1, eqOk_good ((good_lst (good_ints xs)).mono (by decide))]
  simp [noD, PyData.eqv, eqv_ints]
theorem eqT_ints (xs ys : List Int) : eqD (.tuple (xs.map PyData.int)) (.tuple (ys.map PyData.int)) = some (.bool (decide (xs = ys))) := by
  unfold eqD
  rw [er_plain (good_tup (good_ints xs)).1, er_plain (good_tup (good_ints ys)).1, eqOk_good ((good_tup (good_ints xs)).mono (by decide))]
  simp [noD, PyData.eqv, eqv_ints]
theorem neT_ints (xs ys : List Int) : neD (.tuple (xs.map PyData.int)) (.tuple (ys.map PyData.int)) = some (.bool (!decide (xs = ys))) := by
  unfold neD
  rw [er_plain (good_tup (good_ints xs)).1, er_plain (good_tup (good_ints ys)).1, eqOk_good ((good_tup (good_ints xs)).mono (by decide))]
  simp [noD, PyData.eqv, eqv_ints]
theorem lay_ints (ks : List Int) : PyData.canLayAll0 (ks.map PyData.int) = true ∧ PyData.depthAll (ks.map PyData.int) = 0 := by
  induction ks with
  | nil => exact ⟨rfl, rfl⟩
  | cons k ks ih => exact ⟨by simp [PyData.canLayAll0, PyData.canLay0, ih.1], by simp [PyData.depthAll, PyData.depth, ih.2]⟩
theorem findIx_ints {i : Int} : ∀ {ks : List Int} {p n : Nat}, ks[p]? = some i → ks.Nodup → findIx (.int i) (ks.map PyData.int) n = some (n + p)
  | [], p, n, h, _ => by simp at h
  | k :: ks, 0, n, h, _ => by
    have : k = i := by simpa using h
    subst this
    simp [findIx, PyData.eqv]
  | k :: ks, p + 1, n, h, hn => by
    have h : ks[p]? = some i := by simpa using h
    have ne : k ≠ i := fun e => (List.nodup_cons.mp hn).1 (e ▸ List.mem_of_getElem? h)
    have := findIx_ints (n := n + 1) h (List.nodup_cons.mp hn).2
    simp [findIx, PyData.eqv, ne, this]
    omega
theorem index_ints {ks : List Int} {i : Int} {p : Nat} (h : ks[p]? = some i) (hn : ks.Nodup) : indexM (.list (ks.map PyData.int)) [.int i] = some (.int p) := by
  have e : SeqAt.shaped (.list (ks.map PyData.int)) = true := by
    obtain ⟨h1, h2⟩ := lay_ints ks
    unfold SeqAt.shaped
    simp [PyData.canLay0, PyData.depth, h1, h2]
  have e2 : SeqAt.shaped (.int i) = true := rfl
  show (if SeqAt.shaped (.list (ks.map PyData.int)) && SeqAt.shaped (.int i) && (PyData.plain (.int i) && PyData.plainAll (ks.map PyData.int)) then (findIx (.int i) (ks.map PyData.int) 0).map fun k => PyData.int k else none) = _
  rw [e, e2, findIx_ints h hn, (good_all (good_ints ks)).1]
  simp [PyData.plain]
theorem ofS_inj {a b : String} (h : PySem.Str.ofString a = PySem.Str.ofString b) : a = b := by
  rw [PySem.Str.ofString_eq_toList, PySem.Str.ofString_eq_toList] at h
  have h2 := Array.mk.inj (PySem.Str.mk.inj h)
  have inj : ∀ xs ys : List Char, xs.map Char.toNat = ys.map Char.toNat → xs = ys := by
    intro xs
    induction xs with
    | nil => intro ys h; cases ys with
      | nil => rfl
      | cons y ys => cases h
    | cons x xs ih => intro ys h; cases ys with
      | nil => cases h
      | cons y ys =>
        simp only [List.map_cons, List.cons.injEq] at h
        obtain ⟨h1, h2⟩ := h
        have : x = y := by
          apply Char.ext
          exact UInt32.toNat_inj.mp h1
        rw [this, ih ys h2]
  exact String.toList_inj.mp (inj _ _ h2)
theorem ofS_beq {a b : String} : (PySem.Str.ofString a == PySem.Str.ofString b) = (a == b) := by
  rw [Bool.eq_iff_iff, beq_iff_eq, beq_iff_eq]
  exact ⟨ofS_inj, fun h => by rw [h]⟩
section
variable {ρ : Env} {i : Nat} {m n : M Opd} {x k : D}
theorem dct_ap {ks : List Str} {ms : List (M Opd)} : dct ks ms ρ = (ops ms ρ).next fun os => bnd (stabs os) fun ds => ret (.val (.dict ((ks.map PyData.str).zip ds))) := Eq.trans rfl rfl
theorem setDx_ap : setDx i m n ρ = (n ρ).fl fun o => exe (stab o) fun d => exe (chkDc i) fun _ => exe m fun p => exe (res p) fun k => mutO (dputD k d) i := Eq.trans rfl rfl
def chkS (ρ : Env) : Option Slot → R Unit
  | some (.own _ (.dict _)) => .ok () ρ
  | _ => .stuck
theorem chkDc_ap : chkDc i ρ = chkS ρ ρ[i]? := by
  unfold chkDc readOwn
  generalize ρ[i]? = z
  cases z with
  | none => rfl
  | some s =>
    cases s with
    | own k d => cases d <;> rfl
    | _ => rfl
theorem chkS_dict {k : Bool} {ps : List (D × D)} : chkS ρ (some (.own k (.dict ps))) = .ok () ρ := Eq.trans rfl rfl
theorem slc_ap {lo hi : Option (M Opd)} : slc lo hi m ρ = (m ρ).next fun o => bnd (optM lo) fun l => bnd (optM hi) fun h => bnd (res o) fun d => bnd (lift (sliceD l h d)) fun r => ret (.val r) := Eq.trans rfl rfl
theorem optM_none : optM none ρ = .ok none ρ := Eq.trans rfl rfl
theorem optM_some : optM (some m) ρ = (m ρ).next fun o => bnd (res o) fun d => bnd (lift (asI d)) fun i => ret (some i) := Eq.trans rfl rfl
theorem asI_int {i : Int} : asI (.int i) = some i := rfl
theorem kget_ap {tbl : List (Str × D)} : kget tbl m n ρ = (m ρ).next fun o => bnd n fun o2 => bnd (res o) fun d => bnd (stab o2) fun d2 => bnd (lift (kgetD tbl d d2)) fun r => ret (.val r) := Eq.trans rfl rfl
theorem kgetD_str {tbl : List (Str × D)} {z : Str} : kgetD tbl (.str z) x = some ((lookS tbl z).getD x) := rfl
theorem kixD_str {tbl : List (Str × D)} {z : Str} : kixD tbl (.str z) = lookS tbl z := rfl
theorem callT_ap {f : FD} {ks : List Bool} {md : Bool} {ms : List (M Opd)} : callT f ks md m ms ρ = (m ρ).next fun o => match o with
  | .val d => bnd (ops ms) fun os => fun ρ => dropL ρ.length (callO f ks md (.bor ρ.length :: os) (ρ ++ [.own true d]))
  | .bor _ => fun _ => .stuck := Eq.trans rfl rfl
theorem chain_ap {g h : D → D → Option D} {m n k : M Opd} : chain g h m n k ρ = (m ρ).next fun o => bnd n fun p => bnd (res o) fun d => bnd (res p) fun e => bnd (lift (g d e)) fun r => bnd (lift (asB r)) fun x =>
    if x then bnd k fun q => bnd (res p) fun e' => bnd (res q) fun f => bnd (lift (h e' f)) fun r => ret (.val r) else c (.bool false) := Eq.trans rfl rfl
theorem setP_ap {j : Nat} : setP i j m n ρ = (ops [m, n] ρ).fl fun os => match os with
  | [o1, o2] => exe (stab o1) fun d => exe (stab o2) fun e => fun ρ => .next ((ρ.set i (.val d)).set j (.val e))
  | _ => fun _ => .stuck := Eq.trans rfl rfl
theorem from1_tup {xs : List D} {d : D} : sliceD (some 1) none (.tuple (d :: xs)) = some (.tuple xs) := by
  show some (PyData.tuple (((d :: xs).drop (min 1 (xs.length + 1))).take _)) = _
  have e : min 1 (xs.length + 1) = 1 := by omega
  have e2 : sIx (d :: xs).length (d :: xs).length none - sIx (d :: xs).length 0 (some 1) = xs.length := by
    show (xs.length + 1) - (min 1 (xs.length + 1)) = _
    omega
  rw [e2, e]
  simp
theorem neD_bool {a b : Bool} : neD (.bool a) (.bool b) = some (.bool (a != b)) := by
  unfold neD
  simp [er, eqOk, noD, PyData.depth, PyData.eqv, bne]
theorem eqD_bool {a b : Bool} : eqD (.bool a) (.bool b) = some (.bool (a == b)) := by
  unfold eqD
  simp [er, eqOk, noD, PyData.depth, PyData.eqv]
theorem isB_bool {a b : Bool} : isBD (.bool a) (.bool b) = some (.bool (decide (a = b))) := rfl
theorem notB_bool {a b : Bool} : notBD (.bool a) (.bool b) = some (.bool (!decide (a = b))) := rfl
end
theorem callT_ok {ρ ρ1 : Env} {f : FD} {m : M Opd} {ms : List (M Opd)} {ds ds' es : List D} {i : Nat} {k : Bool} {x r : D} (hm : m ρ = .ok (.val (.list ds)) ρ1) (ho : ops ms ρ1 = .ok [.bor i, .val x] ρ1) (hi : ρ1[i]? = some (.own k (.list es)))
    (hf : f [.list ds, .list es, x] = .ok r [.list ds']) (hr : imm r = true) (hd : imms ds' = true) : callT f [true, false, false] false m ms ρ = .ok (.val r) ρ1 := by
  have hlt : i < ρ1.length := (List.getElem?_eq_some_iff.mp hi).1
  have e1 : argD (ρ1 ++ [.own true (.list ds)]) true (.bor ρ1.length) = some (.list ds) := argD_bor (k2 := true) (by rw [List.getElem?_append_right (Nat.le_refl _), Nat.sub_self]; rfl)
  have e2 : argD (ρ1 ++ [.own true (.list ds)]) false (.bor i) = some (.list es) := argD_bor (k2 := k) (by rw [List.getElem?_append_left hlt, hi])
  have e : argDs (ρ1 ++ [.own true (.list ds)]) [true, false, false] [.bor ρ1.length, .bor i, .val x] = some [.list ds, .list es, x] := by
    show (argD (ρ1 ++ [.own true (.list ds)]) true (.bor ρ1.length)).bind _ = _
    rw [e1]
    show ((argD (ρ1 ++ [.own true (.list ds)]) false (.bor i)).bind _).map _ = _
    rw [e2]
    rfl
  have hc : callO f [true, false, false] false [.bor ρ1.length, .bor i, .val x] (ρ1 ++ [.own true (.list ds)]) = .ok (.val r) (ρ1 ++ [.own true (.list ds')]) := by
    unfold callO
    rw [e]
    simp only
    rw [if_pos (by simp [okC, chg, lent]; omega), hf]
    simp only
    rw [if_pos (by simp [okOut, lent, hr, immO, hd])]
    have e3 : putOut (ρ1 ++ [.own true (.list ds)]) [ρ1.length] [.list ds'] = some (ρ1 ++ [.own true (.list ds')]) := by
      have z : (ρ1 ++ [Slot.own true (.list ds)])[ρ1.length]? = some (.own true (.list ds)) := by rw [List.getElem?_append_right (Nat.le_refl _), Nat.sub_self]; rfl
      show (match (ρ1 ++ [Slot.own true (.list ds)])[ρ1.length]? with | some (.own k _) => some ((ρ1 ++ [Slot.own true (.list ds)]).set ρ1.length (.own k (.list ds'))) | _ => none) = _
      rw [z]
      simp
    show (putOut _ (chg [true, false, false] [.bor ρ1.length, .bor i, .val x]) _).elim _ _ = _
    rw [show chg [true, false, false] [.bor ρ1.length, .bor i, .val x] = [ρ1.length] by rfl, e3]
    rfl
  rw [callT_ap, hm]
  show bnd (ops ms) _ ρ1 = _
  rw [bnd_ap, ho]
  show dropL ρ1.length (callO f [true, false, false] false [.bor ρ1.length, .bor i, .val x] (ρ1 ++ [.own true (.list ds)])) = _
  rw [hc]
  show R.ok (Opd.val r) ((ρ1 ++ [Slot.own true (.list ds')]).take ρ1.length) = _
  rw [List.take_left]
/-- all of it, as one -/
def dnA := And.intro @dct_ap <| And.intro @setDx_ap <| And.intro @chkDc_ap <| And.intro @chkS_dict <| And.intro @slc_ap <| And.intro @optM_none <| And.intro @optM_some <| And.intro @asI_int <| And.intro @kget_ap <| And.intro @kgetD_str <| And.intro @kixD_str <| And.intro @chain_ap <| And.intro @setP_ap <| And.intro @from1_tup <| And.intro @neD_bool <| And.intro @eqD_bool <| And.intro @isB_bool <| And.intro @notB_bool <| And.intro @ofS_beq <| And.intro @bv_ap <| And.intro @isSeq_lst <| And.intro @bnd_ap <| And.intro @next_ok <| And.intro @next_exc <| And.intro @fl_ok <| And.intro @fl_exc <| And.intro @exe_ap <| And.intro @ret_ap <| And.intro @c_ap <| And.intro @lift_some <| And.intro @res_val <| And.intro @stab_val <| And.intro @v_ap <| And.intro @b_ap <| And.intro @res_bor <| And.intro @e1_ap <| And.intro @e2_ap <| And.intro @eN_ap <| And.intro @tup_ap <| And.intro @lst_ap <| And.intro @tst_ap <| And.intro @andT_ap <| And.intro @orT_ap <| And.intro @notT_ap <| And.intro @andV_ap <| And.intro @orV_ap <| And.intro @notV_ap <| And.intro @iteV_ap <| And.intro @ops_nil <| And.intro @ops_cons <| And.intro @ress_nil <| And.intro @ress_cons <| And.intro @stabs_nil <| And.intro @stabs_cons <| And.intro @ite_apM <| And.intro @ite_apS <| And.intro @seq_ap <| And.intro @skip_ap <| And.intro @setV_ap <| And.intro @setO_ap <| And.intro @drop_ap <| And.intro @retS_ap <| And.intro @ifS_ap <| And.intro @setT_ap <| And.intro @nl_ap <| And.intro @callM_ap <| And.intro @retO_ap <| And.intro @mth_ap <| And.intro @lcI_ap <| And.intro @rangeM_ap <| And.intro @itemsM_ap <| And.intro @setIx_ap <| And.intro @chkL_ap <| And.intro @mutO_ap <| And.intro @objD_lst <| And.intro @objD_dict <| And.intro @thn_next <| And.intro @thn_rt <| And.intro @thn_brk <| And.intro @thn_cont <| And.intro @thn_exc <| And.intro @setD_0 <| And.intro @setD_1 <| And.intro @asB_bool <| And.intro @addD_int <| And.intro @subD_int <| And.intro @negD_int <| And.intro @ltD_int <| And.intro @leD_int <| And.intro @gtD_int <| And.intro @geD_int <| And.intro @eqD_int <| And.intro @neD_int <| And.intro @eqD_str <| And.intro @neD_str <| And.intro @ixD_lst <| And.intro @ixD_tup <| And.intro @at_0 <| And.intro @at_1 <| And.intro @at_2 <| And.intro @at_3 <| And.intro @at_4 <| And.intro @at_5 <| And.intro @lenD_lst <| And.intro @lenD_tup <| And.intro @absD_int <| And.intro @intD_int <| And.intro @intD_bool <| And.intro @listD_lst <| And.intro @listD_tup <| And.intro @tupleD_lst <| And.intro @tupleD_tup <| And.intro @max2D_int <| And.intro @min2D_int <| And.intro @items_lst <| And.intro @items_tup <| And.intro @isi_int <| And.intro @isi_bool <| And.intro @isi_str <| And.intro @isi_lst <| And.intro @isi_tup <| And.intro @isi_non <| And.intro @finD_rt <| And.intro @finD_exc <| And.intro @finD_nx <| And.intro @outs_nil <| And.intro @outs_f <| And.intro @outs_t <| And.intro @entry_nil <| And.intro @entry_f @entry_t
end Dn


/-! DnU: a call, reckoned step by step whatever is lent. -/
namespace Dn
open PySem
section
variable {ρ : Env} {f : FD} {md k k2 : Bool} {ks : List Bool} {os : List Opd} {ds outs : List D} {d x : D} {i j : Nat} {s : Slot} {xn : Exn}
def callA (f : FD) (ks : List Bool) (md : Bool) (os : List Opd) (ρ : Env) : Option (List D) → R Opd
  | none => .stuck
  | some ds => if okC ks os = true then match f ds with
      | .ok d outs => if okOut ks os (if md then immO d else imm d) outs = true then (putOut ρ (chg ks os) outs).elim .stuck fun ρ' => .ok (.val d) ρ' else .stuck
      | .exc x outs => if okOut ks os (x.fs.all fun p => imm p.2) outs = true then (putOut ρ (chg ks os) outs).elim .stuck fun ρ' => .exc x ρ' else .stuck
      | .stuck => .stuck
    else .stuck
theorem callO_ap : callO f ks md os ρ = callA f ks md os ρ (argDs ρ ks os) := by
  unfold callO callA
  cases argDs ρ ks os <;> rfl
def callB (ks : List Bool) (md : Bool) (os : List Opd) (ρ : Env) : FR → R Opd
  | .ok d outs => if okC ks os = true then if okOut ks os (if md then immO d else imm d) outs = true then (putOut ρ (chg ks os) outs).elim .stuck fun ρ' => .ok (.val d) ρ' else .stuck else .stuck
  | .exc x outs => if okC ks os = true then if okOut ks os (x.fs.all fun p => imm p.2) outs = true then (putOut ρ (chg ks os) outs).elim .stuck fun ρ' => .exc x ρ' else .stuck else .stuck
  | .stuck => .stuck
theorem callA_some : callA f ks md os ρ (some ds) = callB ks md os ρ (f ds) := by
  show (if okC ks os = true then _ else _) = _
  unfold callB
  cases f ds <;> simp
theorem callB_ok : callB ks md os ρ (.ok d outs) = if okC ks os = true then if okOut ks os (if md then immO d else imm d) outs = true then (putOut ρ (chg ks os) outs).elim .stuck fun ρ' => .ok (.val d) ρ' else .stuck else .stuck := Eq.trans rfl rfl
theorem callB_exc : callB ks md os ρ (.exc xn outs) = if okC ks os = true then if okOut ks os (xn.fs.all fun p => imm p.2) outs = true then (putOut ρ (chg ks os) outs).elim .stuck fun ρ' => .exc xn ρ' else .stuck else .stuck := Eq.trans rfl rfl
theorem argDs_nil : argDs ρ [] [] = some [] := Eq.trans rfl rfl
theorem argDs_cons {o : Opd} : argDs ρ (k :: ks) (o :: os) = (argD ρ k o).bind fun d => (argDs ρ ks os).map (d :: ·) := Eq.trans rfl rfl
theorem argD_vf : argD ρ false (.val d) = some d := Eq.trans rfl rfl
def argS (k : Bool) : Option Slot → Option D
  | some (.own _ (.list ds)) => some (.list ds)
  | some (.own _ (.dict ds)) => if k then some (.dict ds) else none
  | _ => none
theorem argD_bs : argD ρ k (.bor i) = argS k ρ[i]? := by
  show (match readOwn i ρ with | some d => if k then some d else if isSeq d then some d else none | none => none) = _
  unfold readOwn
  generalize ρ[i]? = z
  cases z with
  | none => rfl
  | some s =>
    cases s with
    | own k2 d => cases d <;> cases k <;> rfl
    | _ => rfl
theorem argS_l {b : Bool} : argS k (some (.own b (.list ds))) = some (.list ds) := Eq.trans rfl rfl
theorem argS_d {b : Bool} {ps : List (D × D)} : argS true (some (.own b (.dict ps))) = some (.dict ps) := Eq.trans rfl rfl
theorem putOut_0 : putOut ρ [] [] = some ρ := Eq.trans rfl rfl
def putS (ρ : Env) (i : Nat) (d : D) : Option Slot → Option Env
  | some (.own k _) => some (ρ.set i (.own k d))
  | _ => none
theorem putOut_1 : putOut ρ [i] [d] = putS ρ i d ρ[i]? := Eq.trans rfl rfl
theorem putS_own {b : Bool} : putS ρ i d (some (.own b x)) = some (ρ.set i (.own b d)) := Eq.trans rfl rfl
theorem chg_nil : chg [] os = [] := by cases os <;> rfl
theorem chg_f {o : Opd} : chg (false :: ks) (o :: os) = chg ks os := by cases o <;> rfl
theorem chg_tb : chg (true :: ks) (.bor i :: os) = i :: chg ks os := Eq.trans rfl rfl
theorem lent_nil : lent [] os = [] := by cases os <;> rfl
theorem lent_fb : lent (false :: ks) (.bor i :: os) = i :: lent ks os := Eq.trans rfl rfl
theorem lent_v : lent (k :: ks) (.val d :: os) = lent ks os := by cases k <;> rfl
theorem lent_t {o : Opd} : lent (true :: ks) (o :: os) = lent ks os := by cases o <;> rfl
theorem okC_ap : okC ks os = (decide ((chg ks os).length ≤ 1) && (chg ks os).all fun i => !(lent ks os).contains i) := Eq.trans rfl rfl
theorem okOut_ap {h : Bool} : okOut ks os h outs = ((lent ks os).isEmpty || (h && outs.all immO)) := Eq.trans rfl rfl
theorem imm_int {i : Int} : imm (.int i) = true := Eq.trans rfl rfl
theorem imm_bool {i : Bool} : imm (.bool i) = true := Eq.trans rfl rfl
theorem imm_str {i : Str} : imm (.str i) = true := Eq.trans rfl rfl
theorem imm_none : imm .none = true := Eq.trans rfl rfl
theorem imm_tup : imm (.tuple ds) = imms ds := Eq.trans rfl rfl
theorem imms_nil : imms [] = true := Eq.trans rfl rfl
theorem imms_cons : imms (d :: ds) = (imm d && imms ds) := Eq.trans rfl rfl
theorem immO_l : immO (.list ds) = imms ds := Eq.trans rfl rfl
theorem immO_t : immO (.tuple ds) = imms ds := Eq.trans rfl rfl
end
theorem imms_all {ds : List D} (h : ∀ d ∈ ds, imm d = true) : imms ds = true := by
  induction ds with
  | nil => rfl
  | cons d ds ih => rw [imms_cons, h d (by simp), ih fun e he => h e (by simp [he])]; rfl
theorem imms_app {xs ys : List D} : imms (xs ++ ys) = (imms xs && imms ys) := by
  induction xs with
  | nil => rfl
  | cons d ds ih => rw [List.cons_append, imms_cons, imms_cons, ih, Bool.and_assoc]
/-- all of it, as one -/
def dcA := And.intro @callO_ap <| And.intro @callA_some <| And.intro @callB_ok <| And.intro @callB_exc <| And.intro @argDs_nil <| And.intro @argDs_cons <| And.intro @argD_vf <| And.intro @argD_bs <| And.intro @argS_l <| And.intro @argS_d <| And.intro @putOut_0 <| And.intro @putOut_1 <| And.intro @putS_own <| And.intro @chg_nil <| And.intro @chg_f <| And.intro @chg_tb <| And.intro @lent_nil <| And.intro @lent_fb <| And.intro @lent_v <| And.intro @lent_t <| And.intro @okC_ap <| And.intro @okOut_ap <| And.intro @imm_int <| And.intro @imm_bool <| And.intro @imm_str <| And.intro @imm_none <| And.intro @imm_tup <| And.intro @imms_nil <| And.intro @imms_cons <| And.intro @immO_l @immO_t
/-- .. whatever stood in its names -/
theorem lcO_overW {α : Type} {ρ ρ0 : Env} {t : Tg} {js : List Nat} {ts : M Bool} {el : M Opd} (xs : List α) (g f : α → D) (p : α → Bool) (h0 : wipeD ρ js = ρ0)
    (h : ∀ x ∈ xs, ∃ ρ1, tg t (g x) ρ0 = some ρ1 ∧ ts ρ1 = .ok (p x) ρ1 ∧ wipeD ρ1 js = ρ0 ∧ (p x = true → el ρ1 = .ok (.val (f x)) ρ1)) (hl : xs.length ≤ 100000) :
    lcO (ofL (xs.map g)) always t js ts el (xs.map g).length ρ = .ok (.val (.list ((xs.filter p).map f))) (backD ρ ρ0 js) := by
  have main : ∀ (N k : Nat) (acc : List D), k + N = xs.length → lcN (ofL (xs.map g)) always t js ts el N k acc ρ0 = .ok (acc ++ ((xs.drop k).filter p).map f) ρ0 := by
    intro N
    induction N with
    | zero =>
      intro k acc hN
      have e : xs.drop k = [] := List.drop_eq_nil_of_le (by omega)
      rw [e]
      show (if always ρ0 then R.ok acc ρ0 else .stuck) = _
      simp [always]
    | succ N ih =>
      intro k acc hN
      have hk : k < xs.length := by omega
      have e : xs.drop k = xs[k] :: xs.drop (k + 1) := List.drop_eq_getElem_cons hk
      obtain ⟨ρ1, h1, h2, h3, h4⟩ := h xs[k] (List.getElem_mem hk)
      unfold lcN
      have e2 : ofL (xs.map g) k ρ0 = some (g xs[k]) := by
        show (xs.map g)[k]? = _
        rw [List.getElem?_map, List.getElem?_eq_getElem hk]
        rfl
      simp only [e2, h1, h2, R.next]
      rw [e]
      cases hp : p xs[k] with
      | false =>
        simp only [Bool.false_eq_true, if_false, h3]
        rw [ih _ _ (by omega), List.filter_cons_of_neg (by rw [hp]; exact Bool.false_ne_true)]
      | true =>
        have h5 := h4 hp
        have e6 : bnd el stab ρ1 = .ok (f xs[k]) ρ1 := by unfold bnd; rw [h5]; rfl
        simp only [if_true, e6, R.next, h3]
        rw [ih _ _ (by omega), List.filter_cons_of_pos hp, List.map_cons, List.append_assoc, List.singleton_append]
  unfold lcO
  rw [if_pos (by rw [List.length_map]; exact hl), h0, List.length_map, main xs.length 0 [] (by omega)]
  simp
end Dn


/-! DnV: numbers, spots, rows: what laws draw, with no program in sight. -/
namespace Dn
open PySem
def cellP (ns : List Int) (k : Nat) : Int := (ns[k]?).getD 0
/-- how many figures of two a number has, less one -/
def lg (z : Int) : Nat := z.natAbs.log2
theorem lg_bits {z : Int} (h : Builtin.Int.intBits z ≤ 1048576) : lg z ≤ 1048576 := by
  unfold Builtin.Int.intBits at h
  unfold lg
  split at h
  · rename_i h0
    have : z = 0 := by simpa using h0
    subst this
    exact Nat.zero_le _
  · omega
theorem mulOk_lg {i j : Int} (h : lg i + lg j < 134000000) : mulOk i j = true := decide_eq_true h
theorem lg_lt {z : Int} {k : Nat} (h : z.natAbs < 2 ^ (k + 1)) : lg z ≤ k := by
  unfold lg
  by_cases h0 : z.natAbs = 0
  · rw [h0]; simp
  · have := (Nat.log2_lt h0).mpr h
    omega
theorem lg_pow {z : Int} {k : Nat} (h : lg z ≤ k) : z.natAbs < 2 ^ (k + 1) := by
  unfold lg at h
  have h1 : z.natAbs < 2 ^ (z.natAbs.log2 + 1) := Nat.lt_log2_self
  exact Nat.lt_of_lt_of_le h1 (Nat.pow_le_pow_right (by decide) (by omega))
theorem lg_mono {a b : Int} (h : a.natAbs ≤ b.natAbs) : lg a ≤ lg b := lg_lt (Nat.lt_of_le_of_lt h (lg_pow (Nat.le_refl _)))
def bagA (z : Int) : Int := z.natAbs * (if (10 : Int) ^ 18 ≤ z.natAbs then 1 else 0)
def bagB (z : Int) : Int := (z.natAbs : Int) % 2147483647
/-- what one draw leaves of a bag, and gives -/
def drawA (a m : Int) : Int := if 0 < a then a / m else a
def drawB (a b : Int) : Int := if 0 < a then b else (b * 48271 + 11) % 2147483647
def drawR (a b m : Int) : Int := if 0 < a then a % m else
  (let c := (b * 48271 + 11) % 2147483647; c * (c / 65536 + 7) % 2147483629 / 32 % m)
structure BagOk (a b : Int) : Prop where
  a0 : 0 ≤ a
  al : lg a ≤ 1048576
  b0 : 0 ≤ b
  bl : b < 2147483647
theorem bagOk (z : Int) (h : lg z ≤ 1048576) : BagOk (bagA z) (bagB z) := by
  refine ⟨?_, ?_, Int.emod_nonneg _ (by decide), Int.emod_lt_of_pos _ (by decide)⟩
  · unfold bagA; split <;> omega
  · refine Nat.le_trans (lg_mono ?_) h
    unfold bagA
    split <;> simp
theorem drawR_lt {a b m : Int} (hm : 0 < m) : 0 ≤ drawR a b m ∧ drawR a b m < m := by
  unfold drawR
  split
  · exact ⟨Int.emod_nonneg _ (by omega), Int.emod_lt_of_pos _ hm⟩
  · exact ⟨Int.emod_nonneg _ (by omega), Int.emod_lt_of_pos _ hm⟩
theorem drawOk {a b m : Int} (B : BagOk a b) (hm : 0 < m) : BagOk (drawA a m) (drawB a b) := by
  obtain ⟨a0, al, b0, bl⟩ := B
  unfold drawA drawB
  split
  · refine ⟨Int.ediv_nonneg a0 (by omega), Nat.le_trans (lg_mono ?_) al, b0, bl⟩
    have h1 : 0 ≤ a / m := Int.ediv_nonneg a0 (by omega)
    have h2 : a / m ≤ a := Int.ediv_le_self _ a0
    omega
  · exact ⟨a0, al, Int.emod_nonneg _ (by decide), Int.emod_lt_of_pos _ (by decide)⟩

abbrev iD (xs : List Int) : List D := xs.map PyData.int
/-- the while of the divisor -/
theorem gcd_while (f o : Nat) (x0 x2 : Slot) : whileS (tst (e2 gtD (v 3) (c (.int 0)))) (setP 1 3 (v 3) (e2 modD (v 1) (v 3))) [x0, .val (.int f), x2, .val (.int o)] = .next [x0, .val (.int (Nat.gcd o f)), x2, .val (.int 0)] := by
  induction o using Nat.strongRecOn generalizing f with
  | _ o ih =>
    rw [whileS_eq]
    by_cases h : o = 0
    · subst h
      simp only [dnA, List.getElem?_cons_zero, List.getElem?_cons_succ, List.set_cons_zero, List.set_cons_succ, if_true, Bool.false_eq_true, if_false, ↓reduceIte, decide_true, decide_false, decide_eq_true_eq, Option.elim_some, Option.map_some, String.reduceBEq, Bool.or_false, Bool.false_or, Bool.or_true, Bool.true_or, Bool.not_true, Bool.not_false, ne_eq, not_true_eq_false, not_false_eq_true, List.cons_append, List.nil_append, List.replicate, append_ap, show ¬ ((0 : Int) < ((0 : Nat) : Int)) by decide]
      simp
    · have h1 : (0 : Int) < (o : Nat) := by omega
      have h2 : f % o < o := Nat.mod_lt _ (by omega)
      have e : ((f : Int) % (o : Int)) = ((f % o : Nat) : Int) := rfl
      simp only [dnA, List.getElem?_cons_zero, List.getElem?_cons_succ, List.set_cons_zero, List.set_cons_succ, if_true, Bool.false_eq_true, if_false, ↓reduceIte, decide_true, decide_false, decide_eq_true_eq, Option.elim_some, Option.map_some, String.reduceBEq, Bool.or_false, Bool.false_or, Bool.or_true, Bool.true_or, Bool.not_true, Bool.not_false, ne_eq, not_true_eq_false, not_false_eq_true, List.cons_append, List.nil_append, List.replicate, append_ap, h1, modD_int h1, e]
      rw [ih (f % o) h2 o]
      rw [Nat.gcd_rec o f]
def gcdL (xs : List Int) : Nat := xs.foldl (fun g x => Nat.gcd x.natAbs g) 0
theorem at_last {α : Type} {xs : List α} (h : xs ≠ []) : at_ xs (-1) = some (xs.getLast h) := by
  have hp := List.length_pos_iff.mpr h
  unfold at_ place
  rw [if_neg (by decide), if_pos (by omega)]
  show xs[((-1 : Int) + xs.length).toNat]? = _
  rw [show ((-1 : Int) + xs.length).toNat = xs.length - 1 by omega, List.getLast_eq_getElem, List.getElem?_eq_getElem]
def nzP (xs : List Int) : List Int := xs.filter fun x => decide (x ≠ 0)
/-- the divisor, with the sign of the last number that is not 0 -/
def byP (xs : List Int) : Int := if (nzP xs).getLastD 0 < 0 then 0 - (gcdL xs : Int) else (gcdL xs : Int)
def plainP (xs : List Int) : List Int := xs.map fun x => x.fdiv (byP xs)
theorem gcdL_app (xs : List Int) (y : Int) : gcdL (xs ++ [y]) = Nat.gcd y.natAbs (gcdL xs) := by unfold gcdL; rw [List.foldl_append]; rfl
theorem gcd_fold (xs : List Int) : ∀ g : Nat, (xs.foldl (fun g x => Nat.gcd x.natAbs g) g) ∣ g ∧ ∀ x ∈ xs, (xs.foldl (fun g x => Nat.gcd x.natAbs g) g) ∣ x.natAbs := by
  induction xs with
  | nil => exact fun g => ⟨Nat.dvd_refl _, fun x hx => by cases hx⟩
  | cons y xs ih =>
    intro g
    obtain ⟨h1, h2⟩ := ih (Nat.gcd y.natAbs g)
    refine ⟨Nat.dvd_trans h1 (Nat.gcd_dvd_right _ _), fun x hx => ?_⟩
    rcases List.mem_cons.mp hx with rfl | h
    · exact Nat.dvd_trans h1 (Nat.gcd_dvd_left _ _)
    · exact h2 x h
theorem gcdL_dvd (xs : List Int) : ∀ x ∈ xs, (gcdL xs) ∣ x.natAbs := (gcd_fold xs 0).2
theorem gcdL_pos {xs : List Int} (h : ∃ x ∈ xs, x ≠ 0) : 0 < gcdL xs := by
  obtain ⟨x, hx, h0⟩ := h
  have := gcdL_dvd xs x hx
  rcases Nat.eq_zero_or_pos (gcdL xs) with z | z
  · rw [z] at this
    have := Nat.eq_zero_of_zero_dvd this
    omega
  · exact z
theorem gcdL_le {xs : List Int} {B : Nat} (h : ∃ x ∈ xs, x ≠ 0) (hB : ∀ x ∈ xs, x.natAbs ≤ B) : gcdL xs ≤ B := by
  obtain ⟨x, hx, h0⟩ := h
  exact Nat.le_trans (Nat.le_of_dvd (by omega) (gcdL_dvd xs x hx)) (hB x hx)
theorem byP_ne {xs : List Int} (h : ∃ x ∈ xs, x ≠ 0) : byP xs ≠ 0 := by
  have := gcdL_pos h
  unfold byP
  split <;> omega
theorem byP_abs (xs : List Int) : (byP xs).natAbs = gcdL xs := by
  unfold byP
  split <;> omega
/-- each number is the divisor times its plain one -/
theorem plainP_mul {xs : List Int} (x : Int) (hx : x ∈ xs) : x = byP xs * x.fdiv (byP xs) := by
  have h1 : (byP xs) ∣ x := Int.natAbs_dvd_natAbs.mp (by rw [byP_abs]; exact gcdL_dvd xs x hx)
  rw [Int.mul_fdiv_cancel' h1]
/-! ### a spot -/
/-- three numbers, not all 0, none above B -/
structure Spot (B : Nat) (v : List Int) : Prop where
  len : v.length = 3
  nz : ∃ x ∈ v, x ≠ 0
  le : ∀ x ∈ v, x.natAbs ≤ B
theorem plainP_abs {xs : List Int} (x : Int) (hx : x ∈ xs) (h : byP xs ≠ 0) : (x.fdiv (byP xs)).natAbs ≤ x.natAbs := by
  have e := plainP_mul x hx
  have h1 : x.natAbs = (byP xs).natAbs * (x.fdiv (byP xs)).natAbs := by
    rw [← Int.natAbs_mul, ← e]
  rw [h1]
  exact Nat.le_mul_of_pos_left _ (by omega)
theorem Spot.plain {B : Nat} {v : List Int} (h : Spot B v) : Spot B (plainP v) := by
  have hb := byP_ne h.nz
  refine ⟨by simp [plainP, h.len], ?_, fun y hy => ?_⟩
  · obtain ⟨x, hx, h0⟩ := h.nz
    refine ⟨x.fdiv (byP v), List.mem_map.mpr ⟨x, hx, rfl⟩, fun z => h0 ?_⟩
    have e := plainP_mul x hx
    rw [z] at e
    simpa using e
  · obtain ⟨x, hx, rfl⟩ := List.mem_map.mp hy
    exact Nat.le_trans (plainP_abs x hx hb) (h.le x hx)
theorem eqZ3 (x y z : Int) : eqD (.list [.int x, .int y, .int z]) (.list [.int 0, .int 0, .int 0]) = some (.bool (decide ([x, y, z] = [0, 0, 0]))) := eqL_ints [x, y, z] [0, 0, 0]
theorem pickI (ms : List Int) {r : Int} (h0 : 0 ≤ r) (h1 : r < ms.length) : ∃ m ∈ ms, at_ (ms.map PyData.int) r = some (.int m) := by
  obtain ⟨n, rfl⟩ := Int.eq_ofNat_of_zero_le h0
  have h1 : n < ms.length := by omega
  exact ⟨ms[n], List.getElem_mem h1, by rw [at_nat n (by simpa using h1), List.getElem?_map, List.getElem?_eq_getElem h1]; rfl⟩
abbrev sS (x : String) : D := .str (PySem.Str.ofString x)
/-- the words of rows -/
inductive Wd where
  | free | join | meet | curve | about | pole | other
inductive Sr where
  | spot | line | curve
deriving DecidableEq
def Wd.s : Wd → String
  | .free => "free" | .join => "join" | .meet => "meet" | .curve => "curve" | .about => "about" | .pole => "pole" | .other => "other"
def Sr.s : Sr → String
  | .spot => "spot" | .line => "line" | .curve => "curve"
def Wd.asks : Wd → List Sr
  | .free => [] | .join => [.spot, .spot] | .meet => [.line, .line] | .curve => [.spot, .spot, .spot, .spot, .spot] | .about => [.curve, .spot] | .pole => [.curve, .line] | .other => [.curve, .spot, .spot]
def Wd.sr : Wd → Sr
  | .join => .line | .about => .line | .curve => .curve | _ => .spot
theorem Sr.s_eq (x y : Sr) : (x.s == y.s) = decide (x = y) := by cases x <;> cases y <;> decide
/-- a row of a drawing -/
abbrev Rw := Wd × List Int
def rowD (r : Rw) : D := .tuple (sS r.1.s :: r.2.map PyData.int)
def rowsD (rs : List Rw) : D := .list (rs.map rowD)
def hasS (rs : List Rw) (x : Sr) : Prop := ∃ r ∈ rs, r.1.sr = x
theorem pick_at (ps : List D) {r : Int} (h0 : 0 ≤ r) (h1 : r < ps.length) : ∃ k x, r = ((k : Nat) : Int) ∧ ps[k]? = some x ∧ at_ ps r = some x := by
  obtain ⟨n, rfl⟩ := Int.eq_ofNat_of_zero_le h0
  have h1 : n < ps.length := by omega
  exact ⟨n, ps[n], rfl, List.getElem?_eq_getElem h1, by rw [at_nat n h1, List.getElem?_eq_getElem h1]⟩
/-- what a row asks lies ahead -/
def ArgsOk (rs : List Rw) (xs : List Sr) (args : List Int) : Prop := args.length = xs.length ∧ ∀ (i : Nat) (x : Sr), xs[i]? = some x → ∃ (k : Nat) (r : Rw), args[i]? = some (k : Int) ∧ rs[k]? = some r ∧ r.1.sr = x
theorem ArgsOk.nil {rs : List Rw} : ArgsOk rs [] [] := ⟨rfl, fun i x h => by simp at h⟩
theorem ArgsOk.snoc {rs : List Rw} {xs : List Sr} {args : List Int} {x : Sr} {k : Nat} {r : Rw} (h : ArgsOk rs xs args) (hr : rs[k]? = some r) (hx : r.1.sr = x) : ArgsOk rs (xs ++ [x]) (args ++ [(k : Int)]) := by
  obtain ⟨h1, h2⟩ := h
  refine ⟨by simp [h1], fun i y hy => ?_⟩
  by_cases hi : i < xs.length
  · rw [List.getElem?_append_left hi] at hy
    rw [List.getElem?_append_left (by omega)]
    exact h2 i y hy
  · rw [List.getElem?_append_right (by omega)] at hy
    have e : i - xs.length = 0 := by
      have := (List.getElem?_eq_some_iff.mp hy).1
      simp at this
      omega
    rw [e] at hy
    have : x = y := by simpa using hy
    subst this
    rw [List.getElem?_append_right (by omega), show i - args.length = 0 by omega]
    exact ⟨k, r, rfl, hr, hx⟩
def tenW : List Wd := [.join, .meet, .curve, .about, .pole, .other, .join, .meet, .join, .meet]
theorem inS (x : Sr) (ss : List Sr) : notInD (sS x.s) (.list (ss.map fun y => sS y.s)) = some (.bool (!decide (x ∈ ss))) := by
  have e : inOk (sS x.s) (.list (ss.map fun y => sS y.s)) = true := by
    unfold inOk
    refine decide_eq_true ?_
    show min 0 _ ≤ 100
    omega
  have e2 : ((ss.map fun y => sS y.s).any fun y => PyData.eqv y (sS x.s)) = decide (x ∈ ss) := by
    induction ss with
    | nil => simp
    | cons y ss ih =>
      have ih := ih (by unfold inOk; refine decide_eq_true ?_; show min 0 _ ≤ 100; omega)
      rw [List.map_cons, List.any_cons, ih]
      have : PyData.eqv (sS y.s) (sS x.s) = decide (y = x) := by
        show (PyData.eqv (.str _) (.str _)) = _
        unfold PyData.eqv
        rw [ofS_beq, Sr.s_eq]
      rw [this]
      by_cases h : y = x
      · subst h; simp
      · simp [h, List.mem_cons, eq_comm]
        simp [h, Ne.symm h]
  unfold notInD inD
  have e3 : (PyData.plain (sS x.s) && PyData.plainAll (ss.map fun y => sS y.s)) = true := by
    rw [(good_all (n := 0) fun z hz => by
      obtain ⟨y, _, rfl⟩ := List.mem_map.mp hz
      exact good_str).1]
    rfl
  simp only [e, e3, Bool.and_true, if_true, e2]
theorem lg_mul (x y : Int) : lg (x * y) ≤ lg x + lg y + 1 := by
  refine lg_lt ?_
  rw [Int.natAbs_mul]
  have h1 := lg_pow (z := x) (Nat.le_refl _)
  have h2 := lg_pow (z := y) (Nat.le_refl _)
  have h3 : x.natAbs * y.natAbs < 2 ^ (lg x + 1) * 2 ^ (lg y + 1) := Nat.mul_lt_mul'' h1 h2
  rw [← Nat.pow_add] at h3
  exact Nat.lt_of_lt_of_le h3 (Nat.pow_le_pow_right (by decide) (by omega))
theorem lg_add {x y : Int} {n : Nat} (hx : lg x ≤ n) (hy : lg y ≤ n) : lg (x + y) ≤ n + 1 := by
  refine lg_lt ?_
  have h1 := lg_pow hx
  have h2 := lg_pow hy
  have h3 : 2 ^ (n + 1 + 1) = 2 ^ (n + 1) + 2 ^ (n + 1) := by rw [Nat.pow_succ]; omega
  omega
theorem lg_neg (x : Int) : lg (-x) = lg x := by unfold lg; rw [Int.natAbs_neg]
theorem lg_sub {x y : Int} {n : Nat} (hx : lg x ≤ n) (hy : lg y ≤ n) : lg (x - y) ≤ n + 1 := by
  rw [Int.sub_eq_add_neg]
  exact lg_add hx (by rw [lg_neg]; exact hy)
theorem mulB (x y : Int) (hx : lg x ≤ 60000000) (hy : lg y ≤ 60000000) : mulD (.int x) (.int y) = some (.int (x * y)) := mulD_int (mulOk_lg (by omega))
/-- a vector, none of its numbers of more figures than n -/
structure Vec (n : Nat) (a b c : Int) : Prop where
  a : lg a ≤ n
  b : lg b ≤ n
  c : lg c ≤ n
def vD (a b c : Int) : D := .tuple [.int a, .int b, .int c]
theorem put3 {x y z : D} {i j k : Nat} {ρ : Env} : putAll [i, j, k] [x, y, z] ρ = some (((ρ.set i (.val x)).set j (.val y)).set k (.val z)) := rfl
theorem tg3 {x y z : D} {i j k : Nat} {ρ : Env} : tg (.tp [i, j, k]) (.tuple [x, y, z]) ρ = some (((ρ.set i (.val x)).set j (.val y)).set k (.val z)) := rfl
theorem Vec.cross {n : Nat} {a b c d e f : Int} (h : Vec n a b c) (k : Vec n d e f) : Vec (2 * n + 2) (b * f - c * e) (c * d - a * f) (a * e - b * d) := by
  have m : ∀ x y : Int, lg x ≤ n → lg y ≤ n → lg (x * y) ≤ 2 * n + 1 := fun x y hx hy => Nat.le_trans (lg_mul x y) (by omega)
  exact ⟨lg_sub (m _ _ h.b k.c) (m _ _ h.c k.b), lg_sub (m _ _ h.c k.a) (m _ _ h.a k.c), lg_sub (m _ _ h.a k.b) (m _ _ h.b k.a)⟩
abbrev P3 := Int × Int × Int
def pD (v : P3) : D := vD v.1 v.2.1 v.2.2
def VP (n : Nat) (v : P3) : Prop := Vec n v.1 v.2.1 v.2.2
def dotP (v w : P3) : Int := v.1 * w.1 + v.2.1 * w.2.1 + v.2.2 * w.2.2
def crossP (v w : P3) : P3 := (v.2.1 * w.2.2 - v.2.2 * w.2.1, v.2.2 * w.1 - v.1 * w.2.2, v.1 * w.2.1 - v.2.1 * w.1)
def turnP (u v w : P3) : Int := dotP (crossP u v) w
theorem pD_ne (v w : P3) : neD (pD v) (pD w) = some (.bool (!decide (v = w))) := by
  have h := neT_ints [v.1, v.2.1, v.2.2] [w.1, w.2.1, w.2.2]
  have e : decide ([v.1, v.2.1, v.2.2] = [w.1, w.2.1, w.2.2]) = decide (v = w) := by
    obtain ⟨a, b, c⟩ := v
    obtain ⟨d, e, f⟩ := w
    simp
  rw [e] at h
  exact h
theorem pD_eq (v w : P3) : eqD (pD v) (pD w) = some (.bool (decide (v = w))) := by
  have h := eqT_ints [v.1, v.2.1, v.2.2] [w.1, w.2.1, w.2.2]
  have e : decide ([v.1, v.2.1, v.2.2] = [w.1, w.2.1, w.2.2]) = decide (v = w) := by
    obtain ⟨a, b, c⟩ := v
    obtain ⟨d, e, f⟩ := w
    simp
  rw [e] at h
  exact h
theorem VP.mono {n m : Nat} {v : P3} (h : VP n v) (hm : n ≤ m) : VP m v := ⟨Nat.le_trans h.a hm, Nat.le_trans h.b hm, Nat.le_trans h.c hm⟩
theorem VP.cross {n : Nat} {v w : P3} (h : VP n v) (k : VP n w) : VP (2 * n + 2) (crossP v w) := Vec.cross h k
theorem dot_self1 (u v : P3) : dotP u (crossP u v) = 0 := by
  obtain ⟨a, b, c⟩ := u
  obtain ⟨d, e, f⟩ := v
  simp only [dotP, crossP]
  grind
theorem dot_self2 (u v : P3) : dotP v (crossP u v) = 0 := by
  obtain ⟨a, b, c⟩ := u
  obtain ⟨d, e, f⟩ := v
  simp only [dotP, crossP]
  grind
theorem turn_alt (u v w : P3) : dotP w (crossP u v) = turnP u v w := by
  obtain ⟨a, b, c⟩ := u
  obtain ⟨d, e, f⟩ := v
  obtain ⟨p, q, r⟩ := w
  simp only [dotP, crossP, turnP]
  grind
theorem forN_step {ds : List D} {t : Tg} {s : S} {N k : Nat} {ρ ρ1 : Env} {d : D} (hd : ds[k]? = some d) (ht : tg t d ρ = some ρ1) : forN (ofL ds) always t s (N + 1) k ρ = (match s ρ1 with
    | .next ρ2 => forN (ofL ds) always t s N (k + 1) ρ2
    | .cont ρ2 => forN (ofL ds) always t s N (k + 1) ρ2
    | .brk ρ2 => .next ρ2
    | f => f) := by
  have e : ofL ds k ρ = some d := hd
  rw [forN]
  simp only [e, ht]
  try (cases s ρ1 <;> rfl)
/-! ### the law's own look -/
def okJ (vs : List P3) (i j : Nat) : Bool := match vs[i]?, vs[j]? with
  | some a, some b => decide (a ≠ b) && (List.range j).all fun k => match vs[k]? with
    | some c => decide (turnP a b c ≠ 0)
    | none => false
  | _, _ => false
def okI (vs : List P3) (i : Nat) : Bool := (List.range i).all fun j => okJ vs i j
def kindP (vs : List P3) : Bool := (List.range vs.length).all (okI vs)
/-! ### free rows -/
def isFree : D → Bool
  | .tuple (.str z :: _) => z == PySem.Str.ofString "free"
  | _ => false
def freeN (rows : List D) : List Nat := (List.range rows.length).filter fun k => isFree (rows.getD k .none)
def nI (k : Nat) : D := .int k
def RowOk (d : D) : Prop := ∃ z ds, d = .tuple (.str z :: ds)
/-! ### of the kind -/
def lstP (v : P3) : List Int := [v.1, v.2.1, v.2.2]
theorem intTups_p (vs : List P3) : intTups (vs.map pD) = some (vs.map lstP) := by
  induction vs with
  | nil => rfl
  | cons v vs ih =>
    show (intTup (pD v)).bind (fun k => (intTups (vs.map pD)).map (k :: ·)) = _
    rw [ih]
    rfl
theorem lstP_inj {v w : P3} (h : lstP v = lstP w) : v = w := by
  obtain ⟨a, b, c⟩ := v
  obtain ⟨d, e, f⟩ := w
  simpa [lstP] using h
theorem ddp_len {xs : List (List Int)} : (ddp xs).length ≤ xs.length ∧ ((ddp xs).length = xs.length ↔ xs.Nodup) := by
  induction xs with
  | nil => exact ⟨Nat.le_refl _, by simp [ddp]⟩
  | cons x xs ih =>
    unfold ddp
    have hm := ddp_mem (y := x) (xs := xs)
    by_cases h : x ∈ ddp xs
    · rw [if_pos h]
      refine ⟨by simp; omega, ?_⟩
      have hx : x ∈ xs := hm.mp h
      constructor
      · intro z
        simp at z
        omega
      · intro z
        exact absurd hx (List.nodup_cons.mp z).1
    · rw [if_neg h]
      have hx : x ∉ xs := fun z => h (hm.mpr z)
      refine ⟨by simp; omega, ?_⟩
      rw [List.nodup_cons, List.length_cons, List.length_cons]
      constructor
      · intro z
        exact ⟨hx, ih.2.mp (by omega)⟩
      · intro z
        have := ih.2.mpr z.2
        omega
theorem take_slice (xs : List D) (m : Nat) : sliceD none (some (m : Int)) (.list xs) = some (.list (xs.take m)) := by
  show some (PyData.list ((xs.drop 0).take (sIx xs.length xs.length (some (m : Int)) - 0))) = _
  have e : sIx xs.length xs.length (some (m : Int)) = min m xs.length := by
    show (if (m : Int) < 0 then ((m : Int) + xs.length).toNat else min (m : Int).toNat xs.length) = _
    rw [if_neg (by omega)]
    rfl
  rw [e, List.drop_zero, Nat.sub_zero]
  congr 2
  by_cases h : m ≤ xs.length
  · rw [Nat.min_eq_left h]
  · rw [Nat.min_eq_right (by omega), List.take_of_length_le (Nat.le_refl _), List.take_of_length_le (by omega)]
theorem drop_slice (xs : List D) (m : Nat) : sliceD (some (m : Int)) none (.list xs) = some (.list (xs.drop m)) := by
  have e : sIx xs.length 0 (some (m : Int)) = min m xs.length := by
    show (if (m : Int) < 0 then ((m : Int) + xs.length).toNat else min (m : Int).toNat xs.length) = _
    rw [if_neg (by omega)]
    rfl
  show some (PyData.list ((xs.drop (sIx xs.length 0 (some (m : Int)))).take (xs.length - sIx xs.length 0 (some (m : Int))))) = _
  rw [e]
  congr 2
  by_cases h : m ≤ xs.length
  · rw [Nat.min_eq_left h, List.take_of_length_le (by rw [List.length_drop]; exact Nat.le_refl _)]
  · rw [Nat.min_eq_right (by omega), List.drop_eq_nil_of_le (Nat.le_refl _), List.drop_eq_nil_of_le (by omega), List.take_nil]
theorem turn_rev (a b c : P3) : turnP c b a = - turnP a b c := by
  obtain ⟨a1, a2, a3⟩ := a
  obtain ⟨b1, b2, b3⟩ := b
  obtain ⟨c1, c2, c3⟩ := c
  simp only [dotP, crossP, turnP]
  grind
theorem turn_z (a b c : P3) : (turnP c b a = 0) ↔ (turnP a b c = 0) := by rw [turn_rev]; omega
theorem kind1 (x : P3) : kindP [x] = true := by simp [kindP, okI, List.range, List.range.loop]
theorem kind2 {x y : P3} (h : [x, y].Nodup) : kindP [x, y] = true := by
  simp at h
  simp [kindP, okI, okJ, List.range, List.range.loop, Ne.symm h]
theorem kind3 {x y z : P3} (h : [x, y, z].Nodup) : kindP [x, y, z] = decide (turnP x y z ≠ 0) := by
  simp at h
  obtain ⟨⟨h1, h2⟩, h3⟩ := h
  simp [kindP, okI, okJ, List.range, List.range.loop, Ne.symm h1, Ne.symm h2, Ne.symm h3, turn_z]
theorem kind4 {x y z u : P3} (h : [x, y, z, u].Nodup) : kindP [x, y, z, u] = (decide (turnP y z u ≠ 0) && (decide (turnP x z u ≠ 0) && (decide (turnP x y u ≠ 0) && decide (turnP x y z ≠ 0)))) := by
  simp at h
  obtain ⟨⟨h1, h2, h3⟩, ⟨h4, h5⟩, h6⟩ := h
  rw [Bool.eq_iff_iff]
  simp [kindP, okI, okJ, List.range, List.range.loop, Ne.symm h1, Ne.symm h2, Ne.symm h3, Ne.symm h4, Ne.symm h5, Ne.symm h6, turn_z]
  constructor
  · rintro ⟨a, b, c, d⟩
    exact ⟨by assumption, by assumption, by assumption, by assumption⟩
  · rintro ⟨a, b, c, d⟩
    exact ⟨by assumption, by assumption, by assumption, by assumption⟩
theorem kind_dup {ws : List P3} (h : ¬ ws.Nodup) : kindP ws = false := by
  cases hk : kindP ws with
  | false => rfl
  | true =>
    refine absurd ?_ h
    rw [List.Nodup, List.pairwise_iff_getElem]
    intro i j hi hj hij
    have h1 := List.all_eq_true.mp hk j (by simpa using hj)
    have h2 := List.all_eq_true.mp h1 i (by simpa using hij)
    unfold okJ at h2
    rw [List.getElem?_eq_getElem hj, List.getElem?_eq_getElem hi] at h2
    simp at h2
    exact fun e => h2.1 e.symm
theorem forN_nil {t : Tg} {s : S} {ρ : Env} : forN (ofL []) always t s ([] : List D).length 0 ρ = .next ρ := by simp [forN, always]
/-! ### the standing placing -/
def cornP : List P3 := [(0, 0, 1), (1, 0, 1), (0, 1, 1), (1, 1, 1)]
def spotP (ns : List Int) (k : Nat) : P3 := (cornP[k]?).getD (ns.getD (2 * (k - 4)) 0, ns.getD (2 * (k - 4) + 1) 0, 1)
def standP (fr : Nat) (ns : List Int) : List P3 := (List.range fr).map (spotP ns)
/-! ### the law -/
abbrev wFree : D := .tuple [.str (PySem.Str.ofString "free")]
abbrev wJoin : D := .tuple [.str (PySem.Str.ofString "join"), .int 0, .int 0]
def rowsF (fr : Nat) : List D := (List.range fr).map fun _ => wFree
def rowsJ (fr : Nat) : List D := (rowsF fr).take 1 ++ [wJoin] ++ (rowsF fr).drop 1
theorem rowsF_len : ∀ fr ∈ [1, 2, 3, 4, 5, 6, 7], (freeN (rowsF fr)).length = fr := by decide +kernel
theorem rowsJ_len : ∀ fr ∈ [1, 2, 3, 4, 5, 6, 7], (freeN (rowsJ fr)).length = fr := by decide +kernel
/-- rows that will do -/
structure RowsK (fr : Nat) (rows : List D) : Prop where
  ok : ∀ r ∈ rows, RowOk r
  few : rows.length ≤ 1000
  free : (freeN rows).length = fr
theorem rowsF_ok {fr : Nat} (h : 1 ≤ fr ∧ fr ≤ 7) : RowsK fr (rowsF fr) := by
  refine ⟨fun r hr => ?_, by simp [rowsF]; omega, rowsF_len fr (by simp; omega)⟩
  obtain ⟨_, _, rfl⟩ := List.mem_map.mp hr
  exact ⟨_, _, rfl⟩
theorem rowsJ_ok {fr : Nat} (h : 1 ≤ fr ∧ fr ≤ 7) : RowsK fr (rowsJ fr) := by
  refine ⟨fun r hr => ?_, by simp [rowsJ, rowsF]; omega, rowsJ_len fr (by simp; omega)⟩
  unfold rowsJ at hr
  rw [List.append_assoc] at hr
  rcases List.mem_append.mp hr with z | z
  · exact (rowsF_ok h).ok r (List.mem_of_mem_take z)
  · rcases List.mem_append.mp z with z | z
    · rw [List.mem_singleton.mp z]; exact ⟨_, _, rfl⟩
    · exact (rowsF_ok h).ok r (List.mem_of_mem_drop z)
theorem spotP3 {v : List Int} (h : Spot 2000000003 v) : ∃ p : P3, .tuple (iD v) = pD p ∧ VP 1000 p := by
  obtain ⟨h1, _, h3⟩ := h
  rcases v with _ | ⟨a, _ | ⟨b, _ | ⟨c, _ | ⟨d, v⟩⟩⟩⟩
  · cases h1
  · cases h1
  · cases h1
  · have l : ∀ x ∈ [a, b, c], lg x ≤ 1000 := fun x hx => Nat.le_trans (lg_lt (k := 31) (by have := h3 x hx; omega)) (by decide)
    exact ⟨(a, b, c), rfl, l a (by simp), l b (by simp), l c (by simp)⟩
  · cases h1
theorem stand_len (fr : Nat) (ns : List Int) : (standP fr ns).length = fr := by simp [standP]
theorem spot_low (ns : List Int) {k : Nat} (h : k < 4) : spotP ns k = spotP [] k := by
  match k, h with
  | 0, _ => rfl
  | 1, _ => rfl
  | 2, _ => rfl
  | 3, _ => rfl
theorem stand_take (fr : Nat) (ns : List Int) : (standP fr ns).take 4 = standP (min 4 fr) [] := by
  unfold standP
  rw [← List.map_take, List.take_range]
  apply List.map_congr_left
  intro k hk
  have : k < 4 := by
    have := List.mem_range.mp hk
    omega
  exact spot_low ns this
theorem stand_kind {fr : Nat} (h : 1 ≤ fr) (ns : List Int) : kindP ((standP fr ns).take 4) = true := by
  rw [stand_take]
  have all : ∀ k ∈ [1, 2, 3, 4], kindP (standP k []) = true := by decide +kernel
  exact all _ (by simp; omega)
theorem stand_VP {fr : Nat} {ns : List Int} (hn : ∀ x ∈ ns, lg x ≤ 1000) : ∀ v ∈ standP fr ns, VP 1000 v := fun v hv => by
  obtain ⟨k, _, rfl⟩ := List.mem_map.mp hv
  by_cases h : k < 4
  · rw [spot_low ns h]
    have all : ∀ k ∈ [0, 1, 2, 3], lg (spotP [] k).1 ≤ 1000 ∧ lg (spotP [] k).2.1 ≤ 1000 ∧ lg (spotP [] k).2.2 ≤ 1000 := by decide +kernel
    obtain ⟨h1, h2, h3⟩ := all k (by simp; omega)
    exact ⟨h1, h2, h3⟩
  · have hs : spotP ns k = (ns.getD (2 * (k - 4)) 0, ns.getD (2 * (k - 4) + 1) 0, 1) := by
      unfold spotP
      rw [List.getElem?_eq_none (by show 4 ≤ k; omega)]
      rfl
    have gd : ∀ i, lg (ns.getD i 0) ≤ 1000 := fun i => by
      rw [List.getD_eq_getElem?_getD]
      cases e : ns[i]? with
      | none => exact Nat.zero_le _
      | some x => exact hn x (List.mem_of_getElem? e)
    rw [hs]
    exact ⟨gd _, gd _, show lg 1 ≤ 1000 by decide⟩
theorem due_eq {fr : Nat} (hfr : 1 ≤ fr ∧ fr ≤ 7) (ns : List Int) : (cornP.map pD).take fr ++ (List.range (fr - 4)).map (fun k => pD (ns.getD (2 * k) 0, ns.getD (2 * k + 1) 0, 1)) = (standP fr ns).map pD := by
  rw [← List.map_take]
  unfold standP
  have : fr = 1 ∨ fr = 2 ∨ fr = 3 ∨ fr = 4 ∨ fr = 5 ∨ fr = 6 ∨ fr = 7 := by omega
  rcases this with rfl | rfl | rfl | rfl | rfl | rfl | rfl <;> rfl
end Dn


/-! DnW: letter sums: terms, each a tuple of powers and a number. -/
namespace Dn
open PySem
abbrev AL := List (List Int × Int)
def keysA (al : AL) : List (List Int) := al.map (·.1)
def getA : AL → List Int → Int
  | [], _ => 0
  | p :: al, k => if p.1 = k then p.2 else getA al k
def repA : AL → List Int → Int → AL
  | [], _, _ => []
  | p :: al, k, n => (if p.1 = k then (p.1, n) else p) :: repA al k n
def putA (al : AL) (k : List Int) (n : Int) : AL := if k ∈ keysA al then repA al k n else al ++ [(k, n)]
def addA (al : AL) (k : List Int) (m : Int) : AL := putA al k (getA al k + m)
/-- in order, without noughts -/
def nfA (al : AL) : AL := ((sortK (keysA al)).filter fun k => decide (getA al k ≠ 0)).map fun k => (k, getA al k)
theorem keys_rep (al : AL) (k : List Int) (n : Int) : keysA (repA al k n) = keysA al := by
  induction al with
  | nil => rfl
  | cons p al ih =>
    show (if p.1 = k then (p.1, n) else p).1 :: keysA (repA al k n) = p.1 :: keysA al
    rw [ih]
    split <;> rfl
theorem get_none {al : AL} {k : List Int} (h : k ∉ keysA al) : getA al k = 0 := by
  induction al with
  | nil => rfl
  | cons p al ih =>
    show (if p.1 = k then p.2 else getA al k) = 0
    rw [if_neg (fun e => h (by simp [keysA, e])), ih fun e => h (by simp only [keysA, List.map_cons, List.mem_cons]; exact .inr e)]
theorem get_rep {al : AL} {k k' : List Int} {n : Int} (h : k ∈ keysA al) : getA (repA al k n) k' = if k = k' then n else getA al k' := by
  induction al with
  | nil => cases h
  | cons p al ih =>
    show (if (if p.1 = k then (p.1, n) else p).1 = k' then (if p.1 = k then (p.1, n) else p).2 else getA (repA al k n) k') = if k = k' then n else (if p.1 = k' then p.2 else getA al k')
    by_cases e : p.1 = k
    · simp only [e, if_true]
      by_cases e2 : k = k'
      · simp [e2]
      · simp only [e2, if_false]
        have : ∀ {al : AL}, getA (repA al k n) k' = getA al k' := by
          intro al
          induction al with
          | nil => rfl
          | cons q al ih2 =>
            show (if (if q.1 = k then (q.1, n) else q).1 = k' then (if q.1 = k then (q.1, n) else q).2 else getA (repA al k n) k') = (if q.1 = k' then q.2 else getA al k')
            rw [ih2]
            by_cases e3 : q.1 = k
            · simp [e3, e2]
            · simp [e3]
        exact this
    · simp only [e, if_false]
      have hm : k ∈ keysA al := by
        rcases List.mem_cons.mp h with z | z
        · exact absurd z.symm e
        · exact z
      rw [ih hm]
      by_cases e2 : p.1 = k'
      · have : ¬ k = k' := fun z => e (e2.trans z.symm)
        simp [e2, this]
      · simp [e2]
theorem get_app {al : AL} {k k' : List Int} {n : Int} (h : k ∉ keysA al) : getA (al ++ [(k, n)]) k' = if k = k' then n else getA al k' := by
  induction al with
  | nil => rfl
  | cons p al ih =>
    show (if p.1 = k' then p.2 else getA (al ++ [(k, n)]) k') = if k = k' then n else (if p.1 = k' then p.2 else getA al k')
    rw [ih fun e => h (by simp only [keysA, List.map_cons, List.mem_cons]; exact .inr e)]
    by_cases e : p.1 = k'
    · have : ¬ k = k' := fun z => h (by simp [keysA, z, e])
      simp [e, this]
    · simp [e]
theorem get_put (al : AL) (k k' : List Int) (n : Int) : getA (putA al k n) k' = if k = k' then n else getA al k' := by
  unfold putA
  split
  · rename_i h; exact get_rep h
  · rename_i h; exact get_app h
theorem get_add (al : AL) (k k' : List Int) (m : Int) : getA (addA al k m) k' = getA al k' + if k = k' then m else 0 := by
  unfold addA
  rw [get_put]
  by_cases h : k = k'
  · simp [h]
  · simp [h]
theorem keys_put (al : AL) (k : List Int) (n : Int) : keysA (putA al k n) = if k ∈ keysA al then keysA al else keysA al ++ [k] := by
  unfold putA
  split
  · exact keys_rep al k n
  · simp [keysA]
theorem keys_put_nodup {al : AL} (h : (keysA al).Nodup) (k : List Int) (n : Int) : (keysA (putA al k n)).Nodup := by
  rw [keys_put]
  split
  · exact h
  · rename_i hk
    rw [List.nodup_append]
    exact ⟨h, by simp, fun a ha b hb e => hk (by rw [List.mem_singleton.mp hb] at e; exact e ▸ ha)⟩
theorem keys_put_mem {al : AL} {k k' : List Int} {n : Int} (h : k' ∈ keysA (putA al k n)) : k' = k ∨ k' ∈ keysA al := by
  rw [keys_put] at h
  split at h
  · exact .inr h
  · rcases List.mem_append.mp h with z | z
    · exact .inr z
    · exact .inl (List.mem_singleton.mp z)
theorem put_len (al : AL) (k : List Int) (n : Int) : (putA al k n).length ≤ al.length + 1 := by
  have h : (putA al k n).length = (keysA (putA al k n)).length := by simp [keysA]
  have h2 : (keysA al).length = al.length := by simp [keysA]
  rw [h, keys_put]
  split
  · omega
  · simp [h2]
theorem get_mem {al : AL} (h : (keysA al).Nodup) {p : List Int × Int} (hp : p ∈ al) : getA al p.1 = p.2 := by
  induction al with
  | nil => cases hp
  | cons q al ih =>
    obtain ⟨h1, h2⟩ := List.nodup_cons.mp (show (q.1 :: keysA al).Nodup from h)
    show (if q.1 = p.1 then q.2 else getA al p.1) = p.2
    rcases List.mem_cons.mp hp with rfl | z
    · rw [if_pos rfl]
    · rw [if_neg (fun e : q.1 = p.1 => h1 (by rw [e]; exact List.mem_map.mpr ⟨p, z, rfl⟩)), ih h2 z]
theorem keys_nf (al : AL) : keysA (nfA al) = (sortK (keysA al)).filter fun k => decide (getA al k ≠ 0) := by
  show (((sortK (keysA al)).filter fun k => decide (getA al k ≠ 0)).map fun k => (k, getA al k)).map (·.1) = _
  rw [List.map_map]
  exact List.map_id' _
theorem nf_nodup {al : AL} (h : (keysA al).Nodup) : (keysA (nfA al)).Nodup := by
  rw [keys_nf]
  exact ((sortK_perm (keysA al)).nodup_iff.mpr h).filter _
theorem nf_srt (al : AL) : SrtL (keysA (nfA al)) := by
  rw [keys_nf]
  exact (sortK_srt (keysA al)).filter _
theorem nf_mem {al : AL} {p : List Int × Int} (h : p ∈ nfA al) : p.2 = getA al p.1 ∧ p.2 ≠ 0 ∧ p.1 ∈ keysA al := by
  obtain ⟨k, hk, rfl⟩ := List.mem_map.mp h
  obtain ⟨h1, h2⟩ := List.mem_filter.mp hk
  exact ⟨rfl, of_decide_eq_true h2, (sortK_perm _).mem_iff.mp h1⟩
theorem get_nf {al : AL} (h : (keysA al).Nodup) (k : List Int) : getA (nfA al) k = getA al k := by
  by_cases hz : getA al k = 0
  · rw [hz]
    apply get_none
    rw [keys_nf]
    intro hm
    exact of_decide_eq_true (List.mem_filter.mp hm).2 hz
  · have hk : k ∈ keysA al := Classical.byContradiction fun z => hz (get_none z)
    have hm : (k, getA al k) ∈ nfA al := List.mem_map.mpr ⟨k, List.mem_filter.mpr ⟨(sortK_perm _).mem_iff.mpr hk, decide_eq_true hz⟩, rfl⟩
    exact get_mem (nf_nodup h) hm
theorem nf_nil {al : AL} : nfA al = [] ↔ ∀ k, getA al k = 0 := by
  constructor
  · intro h k
    apply Classical.byContradiction
    intro hz
    have hk : k ∈ keysA al := Classical.byContradiction fun z => hz (get_none z)
    have hm : (k, getA al k) ∈ nfA al := List.mem_map.mpr ⟨k, List.mem_filter.mpr ⟨(sortK_perm _).mem_iff.mpr hk, decide_eq_true hz⟩, rfl⟩
    rw [h] at hm
    cases hm
  · intro h
    unfold nfA
    rw [List.filter_eq_nil_iff.mpr fun k hk => by simp [h k]]
    rfl
theorem nf_len (al : AL) : (nfA al).length ≤ al.length := by
  unfold nfA
  rw [List.length_map]
  refine Nat.le_trans (List.length_filter_le _ _) ?_
  rw [(sortK_perm _).length_eq]
  simp [keysA]
/-! ### what it comes to -/
def mono : List Int → List Int → Int
  | e :: k, y :: ys => y ^ e.toNat * mono k ys
  | _, _ => 1
def evL (al : AL) (ys : List Int) : Int := (al.map fun p => p.2 * mono p.1 ys).sum
theorem evL_nil (ys : List Int) : evL [] ys = 0 := rfl
theorem evL_cons (p : List Int × Int) (al : AL) (ys : List Int) : evL (p :: al) ys = p.2 * mono p.1 ys + evL al ys := by simp [evL]
theorem evL_app (al bl : AL) (ys : List Int) : evL (al ++ bl) ys = evL al ys + evL bl ys := by
  induction al with
  | nil => simp [evL]
  | cons p al ih => rw [List.cons_append, evL_cons, evL_cons, ih]; omega
theorem evL_rep {al : AL} (h : (keysA al).Nodup) {k : List Int} (hk : k ∈ keysA al) (n : Int) (ys : List Int) : evL (repA al k n) ys = evL al ys + (n - getA al k) * mono k ys := by
  induction al with
  | nil => cases hk
  | cons p al ih =>
    obtain ⟨h1, h2⟩ := List.nodup_cons.mp (show (p.1 :: keysA al).Nodup from h)
    show evL ((if p.1 = k then (p.1, n) else p) :: repA al k n) ys = evL (p :: al) ys + (n - (if p.1 = k then p.2 else getA al k)) * mono k ys
    rw [evL_cons, evL_cons]
    by_cases e : p.1 = k
    · subst e
      have : ∀ {bl : AL}, p.1 ∉ keysA bl → repA bl p.1 n = bl := by
        intro bl
        induction bl with
        | nil => intro _; rfl
        | cons q bl ih2 =>
          intro hq
          show (if q.1 = p.1 then (q.1, n) else q) :: repA bl p.1 n = q :: bl
          rw [if_neg fun e => hq (by simp [keysA, e]), ih2 fun z => hq (by simp only [keysA, List.map_cons, List.mem_cons]; exact .inr z)]
      rw [this h1]
      simp only [if_true]
      grind
    · have hm : k ∈ keysA al := by
        rcases List.mem_cons.mp hk with z | z
        · exact absurd z.symm e
        · exact z
      rw [ih h2 hm]
      simp only [e, if_false]
      omega
theorem evL_add {al : AL} (h : (keysA al).Nodup) (k : List Int) (m : Int) (ys : List Int) : evL (addA al k m) ys = evL al ys + m * mono k ys := by
  unfold addA putA
  split
  · rename_i hk
    rw [evL_rep h hk]
    grind
  · rename_i hk
    rw [evL_app, get_none hk, evL_cons, evL_nil]
    grind
theorem sum_perm {α : Type} {f : α → Int} {l m : List α} (h : l.Perm m) : (l.map f).sum = (m.map f).sum := by
  induction h with
  | nil => rfl
  | cons x _ ih => simp [ih]
  | swap x y l => simp; omega
  | trans _ _ ih1 ih2 => exact ih1.trans ih2
theorem evL_keys {al : AL} (h : (keysA al).Nodup) (ys : List Int) : evL al ys = ((keysA al).map fun k => getA al k * mono k ys).sum := by
  unfold evL keysA
  rw [List.map_map]
  congr 1
  apply List.map_congr_left
  intro p hp
  show p.2 * mono p.1 ys = getA al p.1 * mono p.1 ys
  rw [get_mem h hp]
theorem evL_nf {al : AL} (h : (keysA al).Nodup) (ys : List Int) : evL (nfA al) ys = evL al ys := by
  rw [evL_keys (nf_nodup h), keys_nf, evL_keys h]
  have e1 : ∀ l : List (List Int), ((l.filter fun k => decide (getA al k ≠ 0)).map fun k => getA (nfA al) k * mono k ys).sum = (l.map fun k => getA al k * mono k ys).sum := by
    intro l
    induction l with
    | nil => rfl
    | cons k l ih =>
      by_cases hz : getA al k = 0
      · rw [List.filter_cons_of_neg (by simp [hz]), ih]
        simp [hz]
      · rw [List.filter_cons_of_pos (by simp [hz]), List.map_cons, List.map_cons, List.sum_cons, List.sum_cons, ih, get_nf h]
  rw [e1]
  exact sum_perm (sortK_perm _)
/-! ### as data -/
def kD (k : List Int) : D := .tuple (k.map PyData.int)
def tmD (p : List Int × Int) : D := .tuple [kD p.1, .int p.2]
def smD (al : AL) : D := .tuple (al.map tmD)
def enD (p : List Int × Int) : D × D := (kD p.1, .int p.2)
def dcD (al : AL) : D := .dict ((.none, .none) :: al.map enD)
theorem chkS_dc {ρ : Env} {k : Bool} (al : AL) : chkS ρ (some (.own k (dcD al))) = .ok () ρ := Eq.trans rfl rfl
theorem objD_dc (al : AL) : objD (dcD al) = true := Eq.trans rfl rfl
theorem allInts_mk (k : List Int) : allInts (k.map PyData.int) = some k := by
  induction k with
  | nil => rfl
  | cons x k ih => show (allInts (k.map PyData.int)).map (x :: ·) = _; rw [ih]; rfl
theorem tkey_k {z : Bool} {k : List Int} (h : z = true ∨ (k.length ≠ 3 ∧ k.length ≠ 15)) : tkey z (kD k) = some k := by
  show (allInts (k.map PyData.int)).bind _ = _
  rw [allInts_mk]
  show (if z || (k.length != 3 && k.length != 15) then some k else none) = some k
  rw [if_pos]
  rcases h with h | ⟨h1, h2⟩
  · simp [h]
  · simp [h1, h2]
theorem tdict_dc (al : AL) : tdict (dcD al) = some (al.map enD) := rfl
theorem eqv_k (a b : List Int) : PyData.eqv (kD a) (kD b) = decide (a = b) := eqv_ints a b
theorem look_dc (al : AL) (k : List Int) : lookD (al.map enD) (kD k) = if k ∈ keysA al then some (.int (getA al k)) else none := by
  unfold lookD
  induction al with
  | nil => rfl
  | cons p al ih =>
    rw [List.map_cons, List.find?_cons, show (enD p).1 = kD p.1 from rfl, eqv_k]
    by_cases e : p.1 = k
    · subst e
      rw [decide_eq_true rfl, if_pos (by simp [keysA])]
      show some (PyData.int p.2) = some (.int (if p.1 = p.1 then p.2 else _))
      rw [if_pos rfl]
    · rw [decide_eq_false e]
      show Option.map _ _ = _
      rw [ih]
      have : (k ∈ keysA (p :: al)) ↔ k ∈ keysA al := by
        show k ∈ p.1 :: keysA al ↔ _
        simp [Ne.symm e]
      by_cases hk : k ∈ keysA al
      · rw [if_pos hk, if_pos (this.mpr hk)]
        show some (PyData.int (getA al k)) = some (.int (if p.1 = k then p.2 else getA al k))
        rw [if_neg e]
      · rw [if_neg hk, if_neg fun z => hk (this.mp z)]
theorem tget_ok {z : Bool} {k : List Int} (h : z = true ∨ (k.length ≠ 3 ∧ k.length ≠ 15)) (al : AL) : tgetD z (dcD al) (kD k) (.int 0) = some (.int (getA al k)) := by
  show (tkey z (kD k)).bind _ = _
  rw [tkey_k h]
  show some ((lookD (al.map enD) (kD k)).getD (.int 0)) = _
  rw [look_dc]
  by_cases hk : k ∈ keysA al
  · rw [if_pos hk]; rfl
  · rw [if_neg hk, get_none hk]; rfl
theorem tix_ok {z : Bool} {k : List Int} (h : z = true ∨ (k.length ≠ 3 ∧ k.length ≠ 15)) {al : AL} (hk : k ∈ keysA al) : tixD z (dcD al) (kD k) = some (.int (getA al k)) := by
  show (tkey z (kD k)).bind _ = _
  rw [tkey_k h]
  show lookD (al.map enD) (kD k) = _
  rw [look_dc, if_pos hk]
theorem putL_dc (al : AL) (k : List Int) (n : Int) : putL (al.map enD) (kD k) (.int n) = (putA al k n).map enD := by
  unfold putL putA
  have e : ((al.map enD).any fun p => PyData.eqv p.1 (kD k)) = decide (k ∈ keysA al) := by
    induction al with
    | nil => rfl
    | cons p al ih =>
      rw [List.map_cons, List.any_cons, ih, show (enD p).1 = kD p.1 from rfl, eqv_k]
      show (decide (p.1 = k) || decide (k ∈ keysA al)) = decide (k ∈ p.1 :: keysA al)
      by_cases e : p.1 = k
      · simp [e]
      · simp [e, Ne.symm e]
  rw [e]
  by_cases hk : k ∈ keysA al
  · rw [if_pos (decide_eq_true hk), if_pos hk]
    clear e hk
    induction al with
    | nil => rfl
    | cons p al ih =>
      rw [List.map_cons, List.map_cons, ih, show (enD p).1 = kD p.1 from rfl, eqv_k]
      show _ = enD (if p.1 = k then (p.1, n) else p) :: (repA al k n).map enD
      by_cases e : p.1 = k
      · simp [e, enD]
      · simp [e]
  · rw [if_neg (by simp [hk]), if_neg hk, List.map_append]
    rfl
theorem tput_ok {z : Bool} {k : List Int} (h : z = true ∨ (k.length ≠ 3 ∧ k.length ≠ 15)) {al : AL} (n : Int) (hl : al.length < 1000000) : tputD z (kD k) (.int n) (dcD al) = some (dcD (putA al k n)) := by
  show (tkey z (kD k)).bind _ = _
  rw [tkey_k h]
  show (if (al.map enD).length < 1000000 then some (PyData.dict ((.none, .none) :: putL (al.map enD) (kD k) (.int n))) else none) = _
  rw [if_pos (by rw [List.length_map]; exact hl), putL_dc]
  rfl
theorem intTups_keys (al : AL) : intTups ((al.map enD).map (·.1)) = some (keysA al) := by
  induction al with
  | nil => rfl
  | cons p al ih =>
    show (intTup (kD p.1)).bind (fun k => (intTups ((al.map enD).map (·.1))).map (k :: ·)) = _
    rw [ih]
    show (allInts (p.1.map PyData.int)).bind _ = _
    rw [allInts_mk]
    rfl
theorem tsort_ok {al : AL} {L : Nat} (h : ∀ k ∈ keysA al, k.length = L) (h1 : 1 ≤ L ∨ al.length ≤ 1) : tsortN [dcD al] = some (.list ((sortK (keysA al)).map kD)) := by
  show (intTups ((al.map enD).map (·.1))).bind _ = _
  rw [intTups_keys]
  show (if ((keysA al).all fun k => k.length == ((keysA al).headD []).length) && (decide (1 ≤ ((keysA al).headD []).length) || decide ((keysA al).length ≤ 1)) then _ else _) = _
  have hl : (keysA al).length = al.length := by simp [keysA]
  rw [if_pos]
  · rfl
  · cases hk : keysA al with
    | nil => simp
    | cons k ks =>
      rw [hk] at h hl
      have hL : k.length = L := h k (by simp)
      rw [Bool.and_eq_true]
      refine ⟨List.all_eq_true.mpr fun x hx => ?_, ?_⟩
      · simp [h x hx, hL]
      · rcases h1 with h1 | h1
        · simp; left; omega
        · simp; right
          have : ks.length + 1 = al.length := hl
          have : ks.length = 0 := by omega
          exact List.eq_nil_of_length_eq_zero this
theorem good_tm (p : List Int × Int) : Good 2 (tmD p) := good_tup (n := 1) fun y hy => by
  simp at hy
  rcases hy with rfl | rfl
  · exact good_tup (n := 0) (good_ints _)
  · exact good_int
theorem good_sm (al : AL) : Good 3 (smD al) := good_tup fun x hx => by
  obtain ⟨p, _, rfl⟩ := List.mem_map.mp hx
  exact good_tm p
end Dn


/-! DnR: numbers at which letter sums don't come to nought. -/
namespace Dn
open PySem
/-! ### roots -/
def evalC : List Int → Int → Int
  | [], _ => 0
  | c :: cs, x => c + x * evalC cs x
def divC (a : Int) : List Int → List Int
  | [] => []
  | [_] => []
  | _ :: c' :: cs => evalC (c' :: cs) a :: divC a (c' :: cs)
theorem div_spec (a x : Int) : ∀ cs, evalC cs x = (x - a) * evalC (divC a cs) x + evalC cs a
  | [] => by simp [evalC, divC]
  | [c] => by simp [evalC, divC]
  | c :: c' :: cs => by
    have ih := div_spec a x (c' :: cs)
    show c + x * evalC (c' :: cs) x = (x - a) * (evalC (c' :: cs) a + x * evalC (divC a (c' :: cs)) x) + (c + a * evalC (c' :: cs) a)
    generalize evalC (c' :: cs) x = E at ih
    generalize evalC (c' :: cs) a = F at ih
    generalize evalC (divC a (c' :: cs)) x = D at ih
    subst ih
    grind
theorem div_len (a : Int) : ∀ cs, (divC a cs).length = cs.length - 1
  | [] => rfl
  | [_] => rfl
  | _ :: c' :: cs => by
    show (divC a (c' :: cs)).length + 1 = _
    rw [div_len a (c' :: cs)]
    simp
theorem div_zero (a : Int) : ∀ cs, (∀ d ∈ divC a cs, d = 0) → evalC cs a = 0 → ∀ c ∈ cs, c = 0
  | [], _, _, c, hc => by cases hc
  | [c0], _, h, c, hc => by
    have : c0 + a * 0 = 0 := h
    rw [List.mem_singleton.mp hc]
    omega
  | c0 :: c' :: cs, hd, h, c, hc => by
    have h0 : evalC (c' :: cs) a = 0 := hd _ (by simp [divC])
    have hz := div_zero a (c' :: cs) (fun d m => hd d (by simp only [divC, List.mem_cons]; exact .inr m)) h0
    rcases List.mem_cons.mp hc with rfl | hc
    · have : c + a * evalC (c' :: cs) a = 0 := h
      rw [h0] at this
      omega
    · exact hz c hc
theorem roots : ∀ (rs cs : List Int), rs.Nodup → (∀ r ∈ rs, evalC cs r = 0) → cs.length ≤ rs.length → ∀ c ∈ cs, c = 0
  | [], cs, _, _, hl, c, hc => by
    have : cs = [] := List.eq_nil_of_length_eq_zero (by simpa using hl)
    rw [this] at hc
    cases hc
  | a :: rs, cs, hn, hr, hl, c, hc => by
    obtain ⟨h1, h2⟩ := List.nodup_cons.mp hn
    have ha := hr a (by simp)
    refine div_zero a cs (roots rs (divC a cs) h2 (fun r m => ?_) (by rw [div_len]; simp at hl; omega)) ha c hc
    have e := div_spec a r cs
    rw [hr r (by simp [m]), ha] at e
    have : (r - a) * evalC (divC a cs) r = 0 := by omega
    rcases Int.mul_eq_zero.mp this with z | z
    · exact absurd (show r = a by omega) (fun z => h1 (z ▸ m))
    · exact z
def addAt : List Int → Nat → Int → List Int
  | [], _, _ => []
  | c :: cs, 0, n => (c + n) :: cs
  | c :: cs, j + 1, n => c :: addAt cs j n
theorem addAt_len : ∀ (cs : List Int) (j : Nat) (n : Int), (addAt cs j n).length = cs.length
  | [], _, _ => rfl
  | _ :: _, 0, _ => rfl
  | _ :: cs, j + 1, n => by show (addAt cs j n).length + 1 = _; rw [addAt_len]; rfl
theorem addAt_eval : ∀ (cs : List Int) (j : Nat) (n x : Int), j < cs.length → evalC (addAt cs j n) x = evalC cs x + n * x ^ j
  | [], _, _, _, h => by simp at h
  | c :: cs, 0, n, x, _ => by
    show c + n + x * evalC cs x = c + x * evalC cs x + n * x ^ 0
    rw [Int.pow_zero]; omega
  | c :: cs, j + 1, n, x, h => by
    show c + x * evalC (addAt cs j n) x = c + x * evalC cs x + n * x ^ (j + 1)
    rw [addAt_eval cs j n x (by simpa using h), Int.pow_succ]
    grind
theorem addAt_get : ∀ (cs : List Int) (j i : Nat) (n : Int), j < cs.length → (addAt cs j n).getD i 0 = cs.getD i 0 + if i = j then n else 0
  | [], _, _, _, h => by simp at h
  | c :: cs, 0, i, n, _ => by cases i <;> simp [addAt]
  | c :: cs, j + 1, i, n, h => by
    cases i with
    | zero => simp [addAt]
    | succ i =>
      have := addAt_get cs j i n (by simpa using h)
      simpa [addAt] using this
def dense (h : Nat) : List (Nat × Int) → List Int
  | [] => List.replicate (h + 1) 0
  | p :: js => addAt (dense h js) p.1 p.2
theorem dense_len (h : Nat) : ∀ js, (dense h js).length = h + 1
  | [] => by simp [dense]
  | p :: js => by show (addAt (dense h js) p.1 p.2).length = _; rw [addAt_len, dense_len]
def spE (js : List (Nat × Int)) (x : Int) : Int := (js.map fun p => p.2 * x ^ p.1).sum
theorem dense_eval (h : Nat) (x : Int) : ∀ js : List (Nat × Int), (∀ p ∈ js, p.1 ≤ h) → evalC (dense h js) x = spE js x
  | [], _ => by
    have : ∀ n, evalC (List.replicate n 0) x = 0 := fun n => by
      induction n with
      | zero => rfl
      | succ n ih => rw [List.replicate_succ]; show 0 + x * evalC _ x = 0; rw [ih]; simp
    exact this _
  | p :: js, hp => by
    show evalC (addAt (dense h js) p.1 p.2) x = _
    have := hp p (by simp)
    rw [addAt_eval _ _ _ _ (by rw [dense_len]; omega), dense_eval h x js fun q m => hp q (by simp [m])]
    simp [spE]
    omega
theorem dense_get (h : Nat) : ∀ (js : List (Nat × Int)) (i : Nat), (∀ p ∈ js, p.1 ≤ h) → i ∉ js.map (·.1) → (dense h js).getD i 0 = 0
  | [], i, _, _ => by
    show (List.replicate (h + 1) (0 : Int)).getD i 0 = 0
    rw [List.getD_eq_getElem?_getD, List.getElem?_replicate]
    split <;> rfl
  | p :: js, i, hp, hi => by
    show (addAt (dense h js) p.1 p.2).getD i 0 = 0
    have := hp p (by simp)
    rw [addAt_get _ _ _ _ (by rw [dense_len]; omega), dense_get h js i (fun q m => hp q (by simp [m])) fun z => hi (by simp at z ⊢; exact .inr z), if_neg fun z => hi (by simp [z])]
    rfl
theorem dense_at (h : Nat) : ∀ (js : List (Nat × Int)) (q : Nat × Int), (∀ p ∈ js, p.1 ≤ h) → (js.map (·.1)).Nodup → q ∈ js → (dense h js).getD q.1 0 = q.2
  | [], q, _, _, hq => by cases hq
  | p :: js, q, hp, hn, hq => by
    obtain ⟨h1, h2⟩ := List.nodup_cons.mp (show (p.1 :: js.map (·.1)).Nodup from hn)
    show (addAt (dense h js) p.1 p.2).getD q.1 0 = q.2
    have := hp p (by simp)
    rw [addAt_get _ _ _ _ (by rw [dense_len]; omega)]
    rcases List.mem_cons.mp hq with rfl | hq
    · rw [dense_get h js q.1 (fun r m => hp r (by simp [m])) h1, if_pos rfl]; omega
    · rw [dense_at h js q (fun r m => hp r (by simp [m])) h2 hq, if_neg (fun z : q.1 = p.1 => h1 (by rw [← z]; exact List.mem_map.mpr ⟨q, hq, rfl⟩))]; omega
/-- a sum of powers of one letter, not all noughts: nought at no more than h numbers -/
theorem sp_roots {js : List (Nat × Int)} {h : Nat} (hp : ∀ p ∈ js, p.1 ≤ h) (hn : (js.map (·.1)).Nodup) {q : Nat × Int} (hq : q ∈ js) (h0 : q.2 ≠ 0) {rs : List Int} (hr : rs.Nodup) (hl : h + 1 ≤ rs.length) : ∃ r ∈ rs, spE js r ≠ 0 := by
  apply Classical.byContradiction
  intro no
  have hz : ∀ r ∈ rs, evalC (dense h js) r = 0 := fun r m => by
    rw [dense_eval h r js hp]
    exact Classical.byContradiction fun z => no ⟨r, m, z⟩
  have all := roots rs (dense h js) hr hz (by rw [dense_len]; exact hl)
  apply h0
  rw [← dense_at h js q hp hn hq, List.getD_eq_getElem?_getD]
  cases e : (dense h js)[q.1]? with
  | none => rfl
  | some c => exact all c (List.mem_of_getElem? e)
/-! ### a number for a letter -/
def pw (k : List Int) (l : Nat) : Nat := (k.getD l 0).toNat
def putR (one : AL) (l : Nat) (x : Int) : AL := one.foldl (fun acc p => addA acc (p.1.set l 0) (p.2 * x ^ pw p.1 l)) []
def stepA (one : AL) (l : Nat) (x : Int) : AL := nfA (putR one l x)
theorem foldA_nodup {α : Type} (f : α → List Int) (g : α → Int) : ∀ (ps : List α) (acc : AL), (keysA acc).Nodup → (keysA (ps.foldl (fun acc p => addA acc (f p) (g p)) acc)).Nodup
  | [], acc, h => h
  | p :: ps, acc, h => foldA_nodup f g ps _ (keys_put_nodup h _ _)
theorem foldA_get {α : Type} (f : α → List Int) (g : α → Int) (k : List Int) : ∀ (ps : List α) (acc : AL), getA (ps.foldl (fun acc p => addA acc (f p) (g p)) acc) k = getA acc k + ((ps.filter fun p => decide (f p = k)).map g).sum
  | [], acc => by simp
  | p :: ps, acc => by
    rw [List.foldl_cons, foldA_get f g k ps, get_add]
    by_cases e : f p = k
    · rw [if_pos e, List.filter_cons_of_pos (by simp [e]), List.map_cons, List.sum_cons]; omega
    · rw [if_neg e, List.filter_cons_of_neg (by simp [e])]; omega
theorem foldA_keys {α : Type} (f : α → List Int) (g : α → Int) : ∀ (ps : List α) (acc : AL) (k : List Int), k ∈ keysA (ps.foldl (fun acc p => addA acc (f p) (g p)) acc) → k ∈ keysA acc ∨ ∃ p ∈ ps, f p = k
  | [], acc, k, h => .inl h
  | p :: ps, acc, k, h => by
    rcases foldA_keys f g ps _ k h with z | ⟨q, h1, h2⟩
    · rcases keys_put_mem z with e | e
      · exact .inr ⟨p, by simp, e.symm⟩
      · exact .inl e
    · exact .inr ⟨q, by simp [h1], h2⟩
theorem foldA_len {α : Type} (f : α → List Int) (g : α → Int) : ∀ (ps : List α) (acc : AL), (ps.foldl (fun acc p => addA acc (f p) (g p)) acc).length ≤ acc.length + ps.length
  | [], acc => by simp
  | p :: ps, acc => by
    have h1 := foldA_len f g ps (addA acc (f p) (g p))
    have h2 := put_len acc (f p) (getA acc (f p) + g p)
    rw [List.foldl_cons, List.length_cons]
    unfold addA at h1 ⊢
    omega
theorem foldA_ev {α : Type} (f : α → List Int) (g : α → Int) (ys : List Int) : ∀ (ps : List α) (acc : AL), (keysA acc).Nodup → evL (ps.foldl (fun acc p => addA acc (f p) (g p)) acc) ys = evL acc ys + (ps.map fun p => g p * mono (f p) ys).sum
  | [], acc, _ => by simp
  | p :: ps, acc, h => by
    rw [List.foldl_cons, foldA_ev f g ys ps (addA acc (f p) (g p)) (keys_put_nodup h _ _), evL_add h, List.map_cons, List.sum_cons]
    omega
theorem putR_nodup (one : AL) (l : Nat) (x : Int) : (keysA (putR one l x)).Nodup := foldA_nodup _ _ one [] (by simp [keysA])
theorem putR_get (one : AL) (l : Nat) (x : Int) (k : List Int) : getA (putR one l x) k = spE ((one.filter fun p => decide (p.1.set l 0 = k)).map fun p => (pw p.1 l, p.2)) x := by
  unfold putR spE
  rw [foldA_get, List.map_map]
  show 0 + _ = _
  rw [Int.zero_add]
  rfl
/-- a letter sum: unlike keys of L powers, none below 0, no number nought -/
structure NF (L : Nat) (one : AL) : Prop where
  nd : (keysA one).Nodup
  len : ∀ p ∈ one, p.1.length = L
  pos : ∀ p ∈ one, ∀ e ∈ p.1, 0 ≤ e
  nz : ∀ p ∈ one, p.2 ≠ 0
theorem set_inj {a b : List Int} {l : Nat} (h : a.set l 0 = b.set l 0) (hl : a.getD l 0 = b.getD l 0) : a = b := by
  apply List.ext_getElem?
  intro i
  have hlen : a.length = b.length := by have := congrArg List.length h; simpa using this
  by_cases e : i = l
  · subst e
    by_cases hi : i < a.length
    · rw [List.getD_eq_getElem?_getD, List.getD_eq_getElem?_getD, List.getElem?_eq_getElem hi, List.getElem?_eq_getElem (by omega)] at hl
      rw [List.getElem?_eq_getElem hi, List.getElem?_eq_getElem (by omega)]
      exact congrArg some hl
    · rw [List.getElem?_eq_none (by omega), List.getElem?_eq_none (by omega)]
  · have := congrArg (·[i]?) h
    simp only [List.getElem?_set_ne (Ne.symm e)] at this
    exact this
theorem getD_pos {k : List Int} (h : ∀ e ∈ k, 0 ≤ e) (l : Nat) : 0 ≤ k.getD l 0 := by
  rw [List.getD_eq_getElem?_getD]
  cases e : k[l]? with
  | none => exact Int.le_refl _
  | some x => exact h x (List.mem_of_getElem? e)
/-- at no more than h numbers is it nought -/
theorem step_roots {L : Nat} {one : AL} (N : NF L one) (h1 : one ≠ []) {l h : Nat} (hh : ∀ p ∈ one, pw p.1 l ≤ h) {rs : List Int} (hr : rs.Nodup) (hl : h + 1 ≤ rs.length) : ∃ r ∈ rs, stepA one l r ≠ [] := by
  obtain ⟨p0, one', rfl⟩ : ∃ p o, one = p :: o := by
    cases one with
    | nil => exact absurd rfl h1
    | cons p o => exact ⟨p, o, rfl⟩
  let js := (((p0 :: one').filter fun p => decide (p.1.set l 0 = p0.1.set l 0)).map fun p => (pw p.1 l, p.2))
  have hjs : ∀ q ∈ js, q.1 ≤ h := fun q hq => by
    obtain ⟨p, hp, rfl⟩ := List.mem_map.mp hq
    exact hh p (List.mem_filter.mp hp).1
  have hnd : (js.map (·.1)).Nodup := by
    have e : js.map (·.1) = (((p0 :: one').filter fun p => decide (p.1.set l 0 = p0.1.set l 0)).map fun p => pw p.1 l) := by
      show (List.map _ _).map _ = _
      rw [List.map_map]
      rfl
    rw [e, List.Nodup, List.pairwise_map]
    have nd : (p0 :: one').Pairwise fun a b => a.1 ≠ b.1 := List.pairwise_map.mp N.nd
    refine (List.Pairwise.and_mem.mp (nd.filter _)).imp fun {a b} hab z => ?_
    obtain ⟨ha, hb, hne⟩ := hab
    obtain ⟨ha1, ha2⟩ := List.mem_filter.mp ha
    obtain ⟨hb1, hb2⟩ := List.mem_filter.mp hb
    refine hne (set_inj ((of_decide_eq_true ha2).trans (of_decide_eq_true hb2).symm) ?_)
    have e1 := getD_pos (N.pos a ha1) l
    have e2 := getD_pos (N.pos b hb1) l
    unfold pw at z
    omega
  have hq : (pw p0.1 l, p0.2) ∈ js := List.mem_map.mpr ⟨p0, List.mem_filter.mpr ⟨by simp, by simp⟩, rfl⟩
  obtain ⟨r, hr1, hr2⟩ := sp_roots hjs hnd hq (N.nz p0 (by simp)) hr hl
  refine ⟨r, hr1, fun z => hr2 ?_⟩
  have := nf_nil.mp z (p0.1.set l 0)
  rw [putR_get] at this
  exact this
theorem step_NF {L : Nat} {one : AL} (N : NF L one) (l : Nat) (x : Int) : NF L (stepA one l x) := by
  have key : ∀ p ∈ stepA one l x, ∃ q ∈ one, q.1.set l 0 = p.1 := fun p hp => by
    rcases foldA_keys _ _ one [] p.1 (nf_mem hp).2.2 with z | z
    · cases z
    · exact z
  refine ⟨nf_nodup (putR_nodup one l x), fun p hp => ?_, fun p hp e he => ?_, fun p hp => (nf_mem hp).2.1⟩
  · obtain ⟨q, h1, h2⟩ := key p hp
    rw [← h2, List.length_set]
    exact N.len q h1
  · obtain ⟨q, h1, h2⟩ := key p hp
    rw [← h2] at he
    rcases List.mem_or_eq_of_mem_set he with z | rfl
    · exact N.pos q h1 e z
    · exact Int.le_refl _
theorem step_key {one : AL} {l : Nat} {x : Int} {p : List Int × Int} (hp : p ∈ stepA one l x) : ∃ q ∈ one, q.1.set l 0 = p.1 := by
  rcases foldA_keys _ _ one [] p.1 (nf_mem hp).2.2 with z | z
  · cases z
  · exact z
theorem step_len (one : AL) (l : Nat) (x : Int) : (stepA one l x).length ≤ one.length := by
  refine Nat.le_trans (nf_len _) ?_
  have := foldA_len (fun p : List Int × Int => p.1.set l 0) (fun p => p.2 * x ^ pw p.1 l) one []
  unfold putR
  simpa using this
theorem mono_set : ∀ (k ys : List Int) (l : Nat) (x : Int), l < k.length → l < ys.length → mono (k.set l 0) ys * x ^ pw k l = mono k (ys.set l x)
  | [], _, _, _, h, _ => by simp at h
  | _ :: _, [], _, _, _, h => by simp at h
  | e :: k, y :: ys, 0, x, _, _ => by
    show (y ^ (0 : Int).toNat * mono k ys) * x ^ e.toNat = x ^ e.toNat * mono k ys
    rw [show (0 : Int).toNat = 0 from rfl, Int.pow_zero, Int.one_mul, Int.mul_comm]
  | e :: k, y :: ys, l + 1, x, h1, h2 => by
    show (y ^ e.toNat * mono (k.set l 0) ys) * x ^ pw k l = y ^ e.toNat * mono k (ys.set l x)
    rw [← mono_set k ys l x (by simpa using h1) (by simpa using h2), Int.mul_assoc]
theorem step_ev {L : Nat} {one : AL} (N : NF L one) {l : Nat} {x : Int} {ys : List Int} (hl : l < L) (hy : ys.length = L) : evL (stepA one l x) ys = evL one (ys.set l x) := by
  unfold stepA
  rw [evL_nf (putR_nodup one l x)]
  unfold putR
  rw [foldA_ev _ _ ys one [] (by simp [keysA])]
  rw [evL_nil, Int.zero_add]
  unfold evL
  congr 1
  apply List.map_congr_left
  intro p hp
  rw [← mono_set p.1 ys l x (by rw [N.len p hp]; exact hl) (by omega), Int.mul_assoc, Int.mul_comm (x ^ _)]
/-- one number after another -/
def chainA (one : AL) : Nat → List Int → AL
  | _, [] => one
  | l, x :: xs => chainA (stepA one l x) (l + 1) xs
theorem chain_snoc (x : Int) : ∀ (xs : List Int) (one : AL) (l : Nat), chainA one l (xs ++ [x]) = stepA (chainA one l xs) (l + xs.length) x
  | [], one, l => rfl
  | y :: xs, one, l => by
    show chainA (stepA one l y) (l + 1) (xs ++ [x]) = stepA (chainA (stepA one l y) (l + 1) xs) (l + (xs.length + 1)) x
    rw [chain_snoc x xs, show l + 1 + xs.length = l + (xs.length + 1) by omega]
theorem chain_NF {L : Nat} : ∀ (xs : List Int) {one : AL} (l : Nat), NF L one → NF L (chainA one l xs)
  | [], _, _, N => N
  | x :: xs, _, l, N => chain_NF xs (l + 1) (step_NF N l x)
theorem chain_len : ∀ (xs : List Int) (one : AL) (l : Nat), (chainA one l xs).length ≤ one.length
  | [], _, _ => Nat.le_refl _
  | x :: xs, one, l => Nat.le_trans (chain_len xs _ _) (step_len one l x)
/-- the powers of the letters behind stay; those ahead are 0 -/
theorem chain_key : ∀ (xs : List Int) (one : AL) (l : Nat) (p : List Int × Int), p ∈ chainA one l xs → ∃ q ∈ one, p.1.length = q.1.length ∧ ∀ i, p.1.getD i 0 = if l ≤ i ∧ i < l + xs.length then 0 else q.1.getD i 0
  | [], one, l, p, hp => ⟨p, hp, rfl, fun i => by rw [if_neg (by simp)]⟩
  | x :: xs, one, l, p, hp => by
    obtain ⟨q, h1, h2, h3⟩ := chain_key xs _ _ p hp
    obtain ⟨r, g1, g2⟩ := step_key h1
    refine ⟨r, g1, by rw [h2, ← g2, List.length_set], fun i => ?_⟩
    rw [h3 i, ← g2]
    have e : (r.1.set l 0).getD i 0 = if i = l then 0 else r.1.getD i 0 := by
      rw [List.getD_eq_getElem?_getD, List.getD_eq_getElem?_getD, List.getElem?_set]
      by_cases e : l = i
      · subst e
        simp
        split <;> simp
      · simp [e, Ne.symm e]
    rw [e, List.length_cons]
    by_cases a : i = l
    · have h0 : (if l + 1 ≤ i ∧ i < l + 1 + xs.length then (0 : Int) else if i = l then 0 else r.1.getD i 0) = 0 := by
        simp only [a, if_true, ite_self]
      rw [h0, if_pos (by omega)]
    · rw [if_neg a]
      by_cases b : l + 1 ≤ i ∧ i < l + 1 + xs.length
      · rw [if_pos b, if_pos (by omega)]
      · rw [if_neg b, if_neg (by omega)]
theorem chain_ev {L : Nat} {ys : List Int} (hy : ys.length = L) : ∀ (xs : List Int) {one : AL} (l : Nat), NF L one → l + xs.length ≤ L → (∀ i x, xs[i]? = some x → ys[l + i]? = some x) → evL (chainA one l xs) ys = evL one ys
  | [], _, _, _, _, _ => rfl
  | x :: xs, one, l, N, hl, hx => by
    show evL (chainA (stepA one l x) (l + 1) xs) ys = _
    rw [chain_ev hy xs (l + 1) (step_NF N l x) (by simp at hl; omega) fun i z h => by
      have := hx (i + 1) z (by simpa using h)
      rwa [show l + (i + 1) = l + 1 + i by omega] at this]
    rw [step_ev N (by simp at hl; omega) hy]
    have h0 : ys[l]? = some x := hx 0 x rfl
    congr 1
    apply List.ext_getElem?
    intro i
    rw [List.getElem?_set]
    by_cases e : l = i
    · subst e
      rw [if_pos rfl, if_pos (List.getElem?_eq_some_iff.mp h0).1, h0]
    · rw [if_neg e]
theorem mono_zero : ∀ (k ys : List Int), (∀ e ∈ k, e = 0) → mono k ys = 1
  | [], _, _ => rfl
  | _ :: _, [], _ => rfl
  | e :: k, y :: ys, h => by
    show y ^ e.toNat * mono k ys = 1
    rw [h e (by simp), mono_zero k ys fun d m => h d (by simp [m])]
    simp
/-- with a number for each letter: a number that isn't 0 -/
theorem chain_all {L : Nat} {one : AL} {xs : List Int} (N : NF L one) (hx : xs.length = L) (h : chainA one 0 xs ≠ []) : evL one xs ≠ 0 := by
  have e := chain_ev (ys := xs) hx xs 0 N (by omega) (fun i x z => by rw [Nat.zero_add]; exact z)
  rw [← e]
  have N' := chain_NF xs 0 N
  have hk : ∀ p ∈ chainA one 0 xs, ∀ e ∈ p.1, e = 0 := fun p hp e he => by
    obtain ⟨q, h1, h2, h3⟩ := chain_key xs one 0 p hp
    obtain ⟨i, hi⟩ := List.getElem?_of_mem he
    have := h3 i
    have hlt := (List.getElem?_eq_some_iff.mp hi).1
    rw [if_pos ⟨Nat.zero_le _, by rw [Nat.zero_add, hx, ← N'.len p hp]; exact hlt⟩, List.getD_eq_getElem?_getD, hi] at this
    exact this
  match hc : chainA one 0 xs, h with
  | [p], _ =>
    rw [hc] at hk N'
    rw [evL_cons, evL_nil, mono_zero _ _ (hk p (by simp))]
    have := N'.nz p (by simp)
    omega
  | p :: q :: r, _ =>
    rw [hc] at hk N'
    have nd := N'.nd
    have z : ∀ s ∈ p :: q :: r, s.1 = List.replicate L 0 := fun s hs => List.eq_replicate_iff.mpr ⟨N'.len s hs, fun b hb => hk s hs b hb⟩
    have : p.1 ≠ q.1 := by
      have := (List.nodup_cons.mp (show (p.1 :: q.1 :: keysA r).Nodup from nd)).1
      intro e
      exact this (by simp [e])
    exact absurd ((z p (by simp)).trans (z q (by simp)).symm) this
/-! ### several at once -/
theorem filt_or {α : Type} (l : List α) (a b : α → Bool) : (l.filter fun x => a x || b x).length ≤ (l.filter a).length + (l.filter b).length := by
  induction l with
  | nil => simp
  | cons x l ih =>
    cases ha : a x <;> cases hb : b x <;> simp [List.filter_cons, ha, hb] <;> omega
/-- the least number from 0 on at which no sum is nought: no greater than the heights together -/
theorem first_ex {L l : Nat} : ∀ (ones : List (AL × Nat)), (∀ o ∈ ones, NF L o.1 ∧ o.1 ≠ [] ∧ ∀ p ∈ o.1, pw p.1 l ≤ o.2) →
    ((List.range ((ones.map (·.2)).sum + 1)).filter fun x => ones.any fun o => decide (stepA o.1 l (x : Nat) = [])).length ≤ (ones.map (·.2)).sum := by
  intro ones h
  have main : ∀ (R : Nat) (ones : List (AL × Nat)), (∀ o ∈ ones, NF L o.1 ∧ o.1 ≠ [] ∧ ∀ p ∈ o.1, pw p.1 l ≤ o.2) → ((List.range R).filter fun x => ones.any fun o => decide (stepA o.1 l (x : Nat) = [])).length ≤ (ones.map (·.2)).sum := by
    intro R ones
    induction ones with
    | nil =>
      intro _
      rw [List.filter_eq_nil_iff.mpr (by simp)]
      simp
    | cons o ones ih =>
      intro h
      have h1 := ih fun o' m => h o' (by simp [m])
      obtain ⟨N, ne, hh⟩ := h o (by simp)
      have h2 := filt_or (List.range R) (fun x => decide (stepA o.1 l ((x : Nat) : Int) = [])) (fun x => ones.any fun o => decide (stepA o.1 l (x : Nat) = []))
      have h3 : ((List.range R).filter fun x => decide (stepA o.1 l ((x : Nat) : Int) = [])).length ≤ o.2 := by
        apply Classical.byContradiction
        intro hgt
        have nd : (((List.range R).filter fun x => decide (stepA o.1 l ((x : Nat) : Int) = [])).map fun x : Nat => (x : Int)).Nodup := by
          rw [List.Nodup, List.pairwise_map]
          exact (List.nodup_range.filter _).imp fun {a b} hab z => hab (by omega)
        obtain ⟨r, hr, hr2⟩ := step_roots (l := l) N ne hh nd (by rw [List.length_map]; omega)
        obtain ⟨x, hx, rfl⟩ := List.mem_map.mp hr
        exact hr2 (of_decide_eq_true (List.mem_filter.mp hx).2)
      simp only [List.any_cons, List.map_cons, List.sum_cons]
      omega
  exact main _ ones h
theorem first_num {L l : Nat} (ones : List (AL × Nat)) (h : ∀ o ∈ ones, NF L o.1 ∧ o.1 ≠ [] ∧ ∀ p ∈ o.1, pw p.1 l ≤ o.2) :
    ∃ N : Nat, N ≤ (ones.map (·.2)).sum ∧ (∀ o ∈ ones, stepA o.1 l (N : Nat) ≠ []) ∧ ∀ x < N, ∃ o ∈ ones, stepA o.1 l ((x : Nat) : Int) = [] := by
  have hb := first_ex (l := l) ones h
  let P : Nat → Bool := fun x => ones.any fun o => decide (stepA o.1 l (x : Nat) = [])
  have ex : ∃ x, x ≤ (ones.map (·.2)).sum ∧ P x = false := by
    apply Classical.byContradiction
    intro no
    have all : ∀ x ∈ List.range ((ones.map (·.2)).sum + 1), P x = true := fun x hx => by
      cases e : P x with
      | true => rfl
      | false => exact absurd ⟨x, by have := List.mem_range.mp hx; omega, e⟩ no
    rw [List.filter_eq_self.mpr all, List.length_range] at hb
    omega
  have least : ∀ n, (∃ x, x ≤ n ∧ P x = false) → ∃ N, N ≤ n ∧ P N = false ∧ ∀ x < N, P x = true := by
    intro n
    induction n with
    | zero => rintro ⟨x, hx, hp⟩; exact ⟨0, Nat.le_refl _, by rw [show x = 0 by omega] at hp; exact hp, fun x h => by omega⟩
    | succ n ih =>
      rintro ⟨x, hx, hp⟩
      by_cases h : ∃ x, x ≤ n ∧ P x = false
      · obtain ⟨N, h1, h2, h3⟩ := ih h
        exact ⟨N, by omega, h2, h3⟩
      · refine ⟨x, hx, hp, fun y hy => ?_⟩
        cases e : P y with
        | true => rfl
        | false => exact absurd ⟨y, by omega, e⟩ h
  obtain ⟨x, hx, hp⟩ := ex
  obtain ⟨N, h1, h2, h3⟩ := least _ ⟨x, hx, hp⟩
  refine ⟨N, h1, fun o ho z => ?_, fun x hx => ?_⟩
  · have := List.any_eq_false.mp h2 o ho
    exact this (decide_eq_true z)
  · obtain ⟨o, ho, hz⟩ := List.any_eq_true.mp (h3 x hx)
    exact ⟨o, ho, of_decide_eq_true hz⟩
end Dn


namespace Dn
open PySem
abbrev zLaw : Bool := false
noncomputable section
def k_SORTS : List (Str × D) := [(PySem.Str.ofString "free", .tuple [.str (PySem.Str.ofString "spot")]), (PySem.Str.ofString "join", .tuple [.str (PySem.Str.ofString "line"), .str (PySem.Str.ofString "spot"), .str (PySem.Str.ofString "spot")]), (PySem.Str.ofString "meet", .tuple [.str (PySem.Str.ofString "spot"), .str (PySem.Str.ofString "line"), .str (PySem.Str.ofString "line")]), (PySem.Str.ofString "curve", .tuple [.str (PySem.Str.ofString "curve"), .str (PySem.Str.ofString "spot"), .str (PySem.Str.ofString "spot"), .str (PySem.Str.ofString "spot"), .str (PySem.Str.ofString "spot"), .str (PySem.Str.ofString "spot")]), (PySem.Str.ofString "about", .tuple [.str (PySem.Str.ofString "line"), .str (PySem.Str.ofString "curve"), .str (PySem.Str.ofString "spot")]), (PySem.Str.ofString "pole", .tuple [.str (PySem.Str.ofString "spot"), .str (PySem.Str.ofString "curve"), .str (PySem.Str.ofString "line")]), (PySem.Str.ofString "other", .tuple [.str (PySem.Str.ofString "spot"), .str (PySem.Str.ofString "curve"), .str (PySem.Str.ofString "spot"), .str (PySem.Str.ofString "spot")])]
def k_MOST_TERMS : D := .int (600)
def k_MOST_PAIRS : D := .int (20000)
def k_MOST_POWER : D := .int (60)
def k_FIRST_OF_TWO : D := .tuple [.int (0), .int (0), .int (0), .int (0), .int (0), .int (1), .int (1), .int (1), .int (1), .int (2), .int (2), .int (2), .int (3), .int (3), .int (4)]
def k_SECOND_OF_TWO : D := .tuple [.int (1), .int (2), .int (3), .int (4), .int (5), .int (2), .int (3), .int (4), .int (5), .int (3), .int (4), .int (5), .int (4), .int (5), .int (5)]
def b_drawings_sort_of : S :=
  retS (e2 ixD (e1 (kixD k_SORTS) (e2 ixD (e2 ixD (v 0) (v 1)) (c (.int 0)))) (c (.int 0)))
def d_drawings_sort_of : FD := runD [false, false] false 0 b_drawings_sort_of
def b_letters_in_order : S :=
  seq (setV 1 (lcI (itemsM (eN tsortN [b 0])) (.nm 2) [2] (tst (e2 neD (e2 (tixD zLaw) (b 0) (v 2)) (c (.int 0)))) (tup [v 2, e2 (tixD zLaw) (b 0) (v 2)]))) (seq (ifS (tst (e2 gtD (eN lenD [v 1]) (c k_MOST_TERMS))) (stuckS) (skip)) (retS (eN tupFD [v 1])))
def d_letters_in_order : FD := runD [true] false 2 b_letters_in_order
def b_letters_plus : S :=
  seq (setO 2 (eN (dictFD zLaw) [v 0])) (seq (forI (itemsM (v 1)) (.tp [3, 4]) (setTx zLaw 2 (v 3) (e2 addD (tgM zLaw (b 2) (v 3) (c (.int 0))) (v 4)))) (retS (callM d_letters_in_order [true] false [b 2])))
def d_letters_plus : FD := runD [false, false] false 3 b_letters_plus
def b_letters_turned : S :=
  retS (eN tupFD [lcI (itemsM (v 0)) (.tp [1, 2]) [1, 2] (yes) (tup [v 1, e2 subD (c (.int 0)) (v 2)])])
def d_letters_turned : FD := runD [false] false 2 b_letters_turned
def b_letters_minus : S :=
  retS (callM d_letters_plus [false, false] false [v 0, callM d_letters_turned [false] false [v 1]])
def d_letters_minus : FD := runD [false, false] false 0 b_letters_minus
def b_letters_together : S :=
  retS (eN tupleD [lcI (zipM (v 0) (v 1)) (.tp [2, 3]) [2, 3] (yes) (e2 addD (v 2) (v 3))])
def d_letters_together : FD := runD [false, false] false 2 b_letters_together
def b_letters_heights : S :=
  seq (setV 1 (lst [])) (seq (forI (itemsM (v 0)) (.tp [2, 3]) (seq (ifS (tst (e2 eqD (eN lenD [v 1]) (c (.int 0)))) (setV 1 (eN listD [v 2])) (skip)) (setV 1 (lcI (zipM (v 2) (v 1)) (.tp [4, 5]) [4, 5] (yes) (eN max2D [v 4, v 5]))))) (retS (v 1)))
def d_letters_heights : FD := runD [false] false 5 b_letters_heights
def b_letters_times : S :=
  seq (ifS (tst (e2 gtD (e2 mulD (eN lenD [v 0]) (eN lenD [v 1])) (c k_MOST_PAIRS))) (stuckS) (skip)) (seq (ifS (tst (e2 gtD (eN max0D [lcI (zipM (callM d_letters_heights [false] false [v 0]) (callM d_letters_heights [false] false [v 1])) (.tp [8, 9]) [8, 9] (yes) (e2 addD (v 8) (v 9))]) (c k_MOST_POWER))) (stuckS) (skip)) (seq (setO 2 (newT)) (seq (forI (itemsM (v 0)) (.tp [3, 4]) (forI (itemsM (v 1)) (.tp [5, 6]) (seq (setV 7 (callM d_letters_together [false, false] false [v 3, v 5])) (setTx zLaw 2 (v 7) (e2 addD (tgM zLaw (b 2) (v 7) (c (.int 0))) (e2 mulD (v 4) (v 6))))))) (retS (callM d_letters_in_order [true] false [b 2])))))
def d_letters_times : FD := runD [false, false] false 8 b_letters_times
def b_raws_crossed : S :=
  seq (setO 2 (lst [])) (seq (forI (itemsM (tup [tup [c (.int 1), c (.int 2)], tup [c (.int 2), c (.int 0)], tup [c (.int 0), c (.int 1)]])) (.tp [3, 4]) (append 2 (callM d_letters_minus [false, false] false [callM d_letters_times [false, false] false [e2 ixD (v 0) (v 3), e2 ixD (v 1) (v 4)], callM d_letters_times [false, false] false [e2 ixD (v 0) (v 4), e2 ixD (v 1) (v 3)]]))) (retS (eN tupleD [bv 2])))
def d_raws_crossed : FD := runD [false, false] false 3 b_raws_crossed
def b_raws_dotted : S :=
  retS (callM d_letters_plus [false, false] false [callM d_letters_plus [false, false] false [callM d_letters_times [false, false] false [e2 ixD (v 0) (c (.int 0)), e2 ixD (v 1) (c (.int 0))], callM d_letters_times [false, false] false [e2 ixD (v 0) (c (.int 1)), e2 ixD (v 1) (c (.int 1))]], callM d_letters_times [false, false] false [e2 ixD (v 0) (c (.int 2)), e2 ixD (v 1) (c (.int 2))]])
def d_raws_dotted : FD := runD [false, false] false 0 b_raws_dotted
def b_raws_table_rows : S :=
  seq (setT (.tp [1, 2, 3, 4, 5, 6]) (v 0)) (retS (lst [tup [callM d_letters_plus [false, false] false [v 1, v 1], v 2, v 4], tup [v 2, callM d_letters_plus [false, false] false [v 3, v 3], v 5], tup [v 4, v 5, callM d_letters_plus [false, false] false [v 6, v 6]]]))
def d_raws_table_rows : FD := runD [false] true 6 b_raws_table_rows
def b_raws_turned_rows : S :=
  retS (lst [callM d_raws_crossed [false, false] false [e2 ixD (v 0) (c (.int 1)), e2 ixD (v 0) (c (.int 2))], callM d_raws_crossed [false, false] false [e2 ixD (v 0) (c (.int 2)), e2 ixD (v 0) (c (.int 0))], callM d_raws_crossed [false, false] false [e2 ixD (v 0) (c (.int 0)), e2 ixD (v 0) (c (.int 1))]])
def d_raws_turned_rows : FD := runD [false] true 0 b_raws_turned_rows
def b_raws_led_by : S :=
  retS (eN tupleD [lcI (itemsM (v 0)) (.nm 2) [2] (yes) (callM d_raws_dotted [false, false] false [v 2, v 1])])
def d_raws_led_by : FD := runD [false, false] false 1 b_raws_led_by
def b_raws_tie : S :=
  seq (setV 3 (e2 ixD (v 1) (e2 ixD (e2 ixD (v 0) (v 2)) (c (.int 2))))) (retS (callM d_raws_dotted [false, false] false [v 3, callM d_raws_led_by [false, false] false [nl (callM d_raws_table_rows [false] true [e2 ixD (v 1) (e2 ixD (e2 ixD (v 0) (v 2)) (c (.int 1)))]), v 3]]))
def d_raws_tie : FD := runD [false, false, false] false 1 b_raws_tie
def b_raws_claim_sums : S :=
  seq (setV 3 (lcI (itemsM (slc (some (c (.int 1))) none (v 2))) (.nm 6) [6] (yes) (e2 ixD (v 1) (v 6)))) (seq (ifS (andT (tst (e2 eqD (e2 ixD (v 2) (c (.int 0))) (c (.str (PySem.Str.ofString "same"))))) (tst (e2 eqD (eN lenD [e2 ixD (v 3) (c (.int 0))]) (c (.int 3))))) (retS (eN listD [callM d_raws_crossed [false, false] false [e2 ixD (v 3) (c (.int 0)), e2 ixD (v 3) (c (.int 1))]])) (skip)) (seq (ifS (tst (e2 eqD (e2 ixD (v 2) (c (.int 0))) (c (.str (PySem.Str.ofString "same"))))) (seq (setT (.tp [7, 8]) (v 3)) (seq (setV 5 (lcI (zipM (c k_FIRST_OF_TWO) (c k_SECOND_OF_TWO)) (.tp [9, 10]) [9, 10] (yes) (tup [v 9, v 10]))) (retS (lcI (itemsM (v 5)) (.tp [9, 10]) [9, 10] (yes) (callM d_letters_minus [false, false] false [callM d_letters_times [false, false] false [e2 ixD (v 7) (v 9), e2 ixD (v 8) (v 10)], callM d_letters_times [false, false] false [e2 ixD (v 7) (v 10), e2 ixD (v 8) (v 9)]]))))) (skip)) (seq (ifS (andT (tst (e2 eqD (e2 ixD (v 2) (c (.int 0))) (c (.str (PySem.Str.ofString "on"))))) (tst (e2 eqD (callM d_drawings_sort_of [false, false] false [v 0, e2 ixD (v 2) (c (.int 2))]) (c (.str (PySem.Str.ofString "line")))))) (retS (lst [callM d_raws_dotted [false, false] false [e2 ixD (v 3) (c (.int 0)), e2 ixD (v 3) (c (.int 1))]])) (skip)) (seq (ifS (tst (e2 eqD (e2 ixD (v 2) (c (.int 0))) (c (.str (PySem.Str.ofString "on"))))) (retS (lst [callM d_raws_dotted [false, false] false [e2 ixD (v 3) (c (.int 0)), callM d_raws_led_by [false, false] false [nl (callM d_raws_table_rows [false] true [e2 ixD (v 3) (c (.int 1))]), e2 ixD (v 3) (c (.int 0))]]])) (skip)) (seq (ifS (orT (tst (e2 eqD (e2 ixD (v 2) (c (.int 0))) (c (.str (PySem.Str.ofString "row"))))) (tst (e2 eqD (e2 ixD (v 2) (c (.int 0))) (c (.str (PySem.Str.ofString "bunch")))))) (retS (lst [callM d_raws_dotted [false, false] false [callM d_raws_crossed [false, false] false [e2 ixD (v 3) (c (.int 0)), e2 ixD (v 3) (c (.int 1))], e2 ixD (v 3) (c (.int 2))]])) (skip)) (seq (ifS (tst (e2 eqD (e2 ixD (v 2) (c (.int 0))) (c (.str (PySem.Str.ofString "touch"))))) (retS (lst [callM d_raws_dotted [false, false] false [e2 ixD (v 3) (c (.int 0)), callM d_raws_led_by [false, false] false [nl (callM d_raws_turned_rows [false] true [nl (callM d_raws_table_rows [false] true [e2 ixD (v 3) (c (.int 1))])]), e2 ixD (v 3) (c (.int 0))]]])) (skip)) (seq (setV 4 (nl (callM d_raws_table_rows [false] true [e2 ixD (v 3) (c (.int 0))]))) (retS (lst [callM d_raws_dotted [false, false] false [e2 ixD (v 4) (c (.int 0)), callM d_raws_crossed [false, false] false [e2 ixD (v 4) (c (.int 1)), e2 ixD (v 4) (c (.int 2))]]])))))))))
def d_raws_claim_sums : FD := runD [false, false, false] true 8 b_raws_claim_sums
def b_law_law_cell : S :=
  seq (ifS (tst (e2 ltD (v 1) (eN lenD [v 0]))) (retS (e2 ixD (v 0) (v 1))) (skip)) (retS (c (.int 0)))
def d_law_law_cell : FD := runD [false, false] false 0 b_law_law_cell
def b_law_law_bag : S :=
  retS (lst [e2 mulD (eN absD [v 0]) (eN intD [e2 geD (eN absD [v 0]) (e2 powD (c (.int 10)) (c (.int 18)))]), e2 modD (eN absD [v 0]) (c (.int 2147483647))])
def d_law_law_bag : FD := runD [false] true 0 b_law_law_bag
def b_law_law_draw : S :=
  seq (ifS (tst (e2 gtD (e2 ixD (b 0) (c (.int 0))) (c (.int 0)))) (seq (setV 2 (e2 modD (e2 ixD (b 0) (c (.int 0))) (v 1))) (seq (setIx 0 (c (.int 0)) (e2 fdivD (e2 ixD (b 0) (c (.int 0))) (v 1))) (retS (v 2)))) (skip)) (seq (setIx 0 (c (.int 1)) (e2 modD (e2 addD (e2 mulD (e2 ixD (b 0) (c (.int 1))) (c (.int 48271))) (c (.int 11))) (c (.int 2147483647)))) (retS (e2 modD (e2 fdivD (e2 modD (e2 mulD (e2 ixD (b 0) (c (.int 1))) (e2 addD (e2 fdivD (e2 ixD (b 0) (c (.int 1))) (c (.int 65536))) (c (.int 7)))) (c (.int 2147483629))) (c (.int 32))) (v 1))))
def d_law_law_draw : FD := runD [true, false] false 1 b_law_law_draw
def b_law_law_asks : S :=
  seq (setO 1 (dct [PySem.Str.ofString "free", PySem.Str.ofString "join", PySem.Str.ofString "meet", PySem.Str.ofString "about"] [lst [], lst [c (.str (PySem.Str.ofString "spot")), c (.str (PySem.Str.ofString "spot"))], lst [c (.str (PySem.Str.ofString "line")), c (.str (PySem.Str.ofString "line"))], lst [c (.str (PySem.Str.ofString "curve")), c (.str (PySem.Str.ofString "spot"))]])) (seq (setDx 1 (c (.str (PySem.Str.ofString "curve"))) (lst [c (.str (PySem.Str.ofString "spot")), c (.str (PySem.Str.ofString "spot")), c (.str (PySem.Str.ofString "spot")), c (.str (PySem.Str.ofString "spot")), c (.str (PySem.Str.ofString "spot"))])) (seq (setDx 1 (c (.str (PySem.Str.ofString "pole"))) (lst [c (.str (PySem.Str.ofString "curve")), c (.str (PySem.Str.ofString "line"))])) (seq (setDx 1 (c (.str (PySem.Str.ofString "other"))) (lst [c (.str (PySem.Str.ofString "curve")), c (.str (PySem.Str.ofString "spot")), c (.str (PySem.Str.ofString "spot"))])) (retS (e2 dixD (b 1) (v 0))))))
def d_law_law_asks : FD := runD [false] false 1 b_law_law_asks
def b_law_law_sort : S :=
  seq (ifS (orT (tst (e2 eqD (e2 ixD (v 0) (c (.int 0))) (c (.str (PySem.Str.ofString "join"))))) (tst (e2 eqD (e2 ixD (v 0) (c (.int 0))) (c (.str (PySem.Str.ofString "about")))))) (retS (c (.str (PySem.Str.ofString "line")))) (skip)) (retS (e2 ixD (lst [c (.str (PySem.Str.ofString "spot")), c (.str (PySem.Str.ofString "curve"))]) (eN intD [e2 eqD (e2 ixD (v 0) (c (.int 0))) (c (.str (PySem.Str.ofString "curve")))])))
def d_law_law_sort : FD := runD [false] false 0 b_law_law_sort
def b_law_law_pick : S :=
  seq (setV 3 (lcI (rangeM range1 [eN lenD [v 1]]) (.nm 4) [4] (tst (e2 eqD (callM d_law_law_sort [false] false [e2 ixD (v 1) (v 4)]) (v 2))) (v 4))) (retS (e2 ixD (v 3) (callM d_law_law_draw [true, false] false [b 0, eN lenD [v 3]])))
def d_law_law_pick : FD := runD [true, false, false] false 2 b_law_law_pick
def b_law_law_row : S :=
  seq (setV 3 (lcI (itemsM (v 1)) (.nm 7) [7] (yes) (callM d_law_law_sort [false] false [v 7]))) (seq (setV 4 (lst [c (.str (PySem.Str.ofString "join")), c (.str (PySem.Str.ofString "meet")), c (.str (PySem.Str.ofString "curve")), c (.str (PySem.Str.ofString "about")), c (.str (PySem.Str.ofString "pole")), c (.str (PySem.Str.ofString "other")), c (.str (PySem.Str.ofString "join")), c (.str (PySem.Str.ofString "meet")), c (.str (PySem.Str.ofString "join")), c (.str (PySem.Str.ofString "meet"))])) (seq (setV 5 (e2 ixD (v 4) (callM d_law_law_draw [true, false] false [b 0, c (.int 10)]))) (seq (setV 6 (lcI (itemsM (callM d_law_law_asks [false] false [v 5])) (.nm 8) [8] (tst (e2 notInD (v 8) (v 3))) (v 8))) (seq (ifS (orT (tst (e2 ltD (eN lenD [v 1]) (v 2))) (tst (e2 gtD (eN lenD [v 6]) (c (.int 0))))) (setV 5 (e2 ixD (lst [c (.str (PySem.Str.ofString "join")), c (.str (PySem.Str.ofString "free"))]) (eN intD [e2 ltD (eN lenD [v 1]) (v 2)]))) (skip)) (retS (eN tupleD [e2 addD (lst [v 5]) (lcI (itemsM (callM d_law_law_asks [false] false [v 5])) (.nm 8) [8] (yes) (callM d_law_law_pick [true, false, false] false [b 0, v 1, v 8]))]))))))
def d_law_law_row : FD := runD [true, false, false] false 6 b_law_law_row
def b_law_law_cross : S :=
  seq (setT (.tp [2, 3, 4]) (v 0)) (seq (setT (.tp [5, 6, 7]) (v 1)) (retS (tup [e2 subD (e2 mulD (v 3) (v 7)) (e2 mulD (v 4) (v 6)), e2 subD (e2 mulD (v 4) (v 5)) (e2 mulD (v 2) (v 7)), e2 subD (e2 mulD (v 2) (v 6)) (e2 mulD (v 3) (v 5))])))
def d_law_law_cross : FD := runD [false, false] false 6 b_law_law_cross
def b_law_law_dot : S :=
  retS (e2 addD (e2 addD (e2 mulD (e2 ixD (v 0) (c (.int 0))) (e2 ixD (v 1) (c (.int 0)))) (e2 mulD (e2 ixD (v 0) (c (.int 1))) (e2 ixD (v 1) (c (.int 1))))) (e2 mulD (e2 ixD (v 0) (c (.int 2))) (e2 ixD (v 1) (c (.int 2)))))
def d_law_law_dot : FD := runD [false, false] false 0 b_law_law_dot
def b_law_law_turn : S :=
  retS (callM d_law_law_dot [false, false] false [callM d_law_law_cross [false, false] false [v 0, v 1], v 2])
def d_law_law_turn : FD := runD [false, false, false] false 0 b_law_law_turn
def b_law_law_rows_of : S :=
  seq (setT (.tp [1, 2, 3, 4, 5, 6]) (v 0)) (retS (lst [tup [e2 mulD (c (.int 2)) (v 1), v 2, v 4], tup [v 2, e2 mulD (c (.int 2)) (v 3), v 5], tup [v 4, v 5, e2 mulD (c (.int 2)) (v 6)]]))
def d_law_law_rows_of : FD := runD [false] true 6 b_law_law_rows_of
def b_law_law_times : S :=
  retS (eN tupleD [lcI (itemsM (nl (callM d_law_law_rows_of [false] true [v 0]))) (.nm 2) [2] (yes) (callM d_law_law_dot [false, false] false [v 2, v 1])])
def d_law_law_times : FD := runD [false, false] false 1 b_law_law_times
def b_law_law_at : S :=
  seq (setV 2 (c (.int 0))) (seq (forI (itemsM (v 0)) (.tp [3, 4]) (seq (forI (zipM (v 3) (v 1)) (.tp [5, 6]) (forI (rangeM range1 [v 5]) (.nm 7) (setV 4 (e2 mulD (v 4) (v 6))))) (setV 2 (e2 addD (v 2) (v 4))))) (retS (v 2)))
def d_law_law_at : FD := runD [false, false] false 6 b_law_law_at
def b_law_law_sum_good : S :=
  seq (ifS (notT (tst (e1 (isiD "tuple") (v 0)))) (retS (c (.bool false))) (skip)) (seq (setV 2 (c .none)) (seq (forI (itemsM (v 0)) (.nm 3) (seq (ifS (orT (notT (tst (e1 (isiD "tuple") (v 3)))) (orT (tst (e2 neD (eN lenD [v 3]) (c (.int 2)))) (orT (notT (tst (e1 (isiD "tuple") (e2 ixD (v 3) (c (.int 0)))))) (tst (e2 neD (eN lenD [e2 ixD (v 3) (c (.int 0))]) (v 1)))))) (retS (c (.bool false))) (skip)) (seq (forI (itemsM (e2 addD (eN listD [e2 ixD (v 3) (c (.int 0))]) (lst [e2 ixD (v 3) (c (.int 1))]))) (.nm 4) (ifS (orT (notT (tst (e1 (isiD "int") (v 4)))) (tst (e1 (isiD "bool") (v 4)))) (retS (c (.bool false))) (skip))) (seq (ifS (orT (tst (e2 ltD (eN minLD [e2 addD (lst [c (.int 0)]) (eN listD [e2 ixD (v 3) (c (.int 0))])]) (c (.int 0)))) (orT (tst (e2 eqD (e2 ixD (v 3) (c (.int 1))) (c (.int 0)))) (andT (tst (e2 notNoneD (v 2) (c .none))) (notT (tst (e2 ltTD (v 2) (e2 ixD (v 3) (c (.int 0))))))))) (retS (c (.bool false))) (skip)) (setV 2 (e2 ixD (v 3) (c (.int 0)))))))) (retS (c (.bool true)))))
def d_law_law_sum_good : FD := runD [false, false] false 3 b_law_law_sum_good
def b_law_law_part : S :=
  seq (setV 3 (callM d_law_law_draw [true, false] false [b 0, c (.int 4)])) (seq (setV 4 (e2 subD (callM d_law_law_draw [true, false] false [b 0, e2 addD (e2 mulD (c (.int 2)) (v 2)) (c (.int 1))]) (v 2))) (seq (ifS (orT (tst (e2 eqD (v 3) (c (.int 0)))) (tst (e2 eqD (v 1) (c (.int 0))))) (retS (lst [tup [e2 mulD (tup [c (.int 0)]) (v 1), v 4]])) (skip)) (seq (setV 5 (callM d_law_law_draw [true, false] false [b 0, v 1])) (seq (setV 6 (eN tupleD [lcI (rangeM range1 [v 1]) (.nm 8) [8] (yes) (eN intD [e2 eqD (v 8) (v 5)])])) (seq (ifS (orT (tst (e2 gtD (v 1) (c (.int 2)))) (tst (e2 eqD (v 3) (c (.int 1))))) (retS (lst [tup [v 6, v 4]])) (skip)) (seq (setV 7 (e2 mulD (tup [c (.int 1)]) (v 1))) (seq (ifS (tst (e2 eqD (v 3) (c (.int 2)))) (retS (lst [tup [e2 mulD (tup [c (.int 0)]) (v 1), v 4], tup [v 6, e2 subD (callM d_law_law_draw [true, false] false [b 0, c (.int 5)]) (c (.int 2))]])) (skip)) (retS (lst [tup [e2 mulD (tup [c (.int 0)]) (v 1), e2 subD (callM d_law_law_draw [true, false] false [b 0, c (.int 5)]) (c (.int 2))], tup [v 6, v 4], tup [v 7, e2 subD (callM d_law_law_draw [true, false] false [b 0, c (.int 3)]) (c (.int 1))]])))))))))
def d_law_law_part : FD := runD [true, false, false] true 6 b_law_law_part
def b_law_law_thing : S :=
  seq (setO 4 (lst [])) (seq (forI (rangeM range1 [e2 addD (c (.int 3)) (e2 mulD (c (.int 3)) (eN intD [e2 eqD (v 2) (c (.str (PySem.Str.ofString "curve")))]))]) (.nm 5) (append 4 (eN tupFD [eN sortTD [lcI (itemsM (nl (callM d_law_law_part [true, false, false] true [b 0, v 1, v 3]))) (.nm 6) [6] (tst (e2 neD (e2 ixD (v 6) (c (.int 1))) (c (.int 0)))) (v 6)]]))) (retS (eN tupleD [bv 4])))
def d_law_law_thing : FD := runD [true, false, false, false] false 3 b_law_law_thing
def b_law_law_claim : S :=
  seq (setV 2 (lcI (itemsM (v 1)) (.nm 6) [6] (yes) (callM d_law_law_sort [false] false [v 6]))) (seq (setV 3 (e2 ixD (lst [c (.str (PySem.Str.ofString "same")), c (.str (PySem.Str.ofString "on")), c (.str (PySem.Str.ofString "row")), c (.str (PySem.Str.ofString "bunch")), c (.str (PySem.Str.ofString "touch")), c (.str (PySem.Str.ofString "parted")), c (.str (PySem.Str.ofString "row")), c (.str (PySem.Str.ofString "on"))]) (callM d_law_law_draw [true, false] false [b 0, c (.int 8)]))) (seq (setV 4 (e2 ixD (v 2) (callM d_law_law_draw [true, false] false [b 0, eN lenD [v 2]]))) (seq (setO 5 (dct [PySem.Str.ofString "same", PySem.Str.ofString "row", PySem.Str.ofString "bunch"] [lst [v 4, v 4], lst [c (.str (PySem.Str.ofString "spot")), c (.str (PySem.Str.ofString "spot")), c (.str (PySem.Str.ofString "spot"))], lst [c (.str (PySem.Str.ofString "line")), c (.str (PySem.Str.ofString "line")), c (.str (PySem.Str.ofString "line"))]])) (seq (setDx 5 (c (.str (PySem.Str.ofString "on"))) (lst [c (.str (PySem.Str.ofString "spot")), e2 ixD (lst [c (.str (PySem.Str.ofString "line")), c (.str (PySem.Str.ofString "curve"))]) (callM d_law_law_draw [true, false] false [b 0, c (.int 2)])])) (seq (setDx 5 (c (.str (PySem.Str.ofString "touch"))) (lst [c (.str (PySem.Str.ofString "line")), c (.str (PySem.Str.ofString "curve"))])) (seq (setDx 5 (c (.str (PySem.Str.ofString "parted"))) (lst [c (.str (PySem.Str.ofString "curve"))])) (seq (ifS (tst (e2 gtD (eN lenD [lcI (itemsM (e2 dixD (b 5) (v 3))) (.nm 7) [7] (tst (e2 notInD (v 7) (v 2))) (v 7)]) (c (.int 0)))) (setV 3 (c (.str (PySem.Str.ofString "same")))) (skip)) (retS (eN tupleD [e2 addD (lst [v 3]) (lcI (itemsM (e2 dixD (b 5) (v 3))) (.nm 7) [7] (yes) (callM d_law_law_pick [true, false, false] false [b 0, v 1, v 7]))])))))))))
def d_law_law_claim : FD := runD [true, false] false 6 b_law_law_claim
def b_law_law_numbers : S :=
  seq (ifS (tst (e2 eqD (e2 ixD (v 2) (c (.int 0))) (c (.str (PySem.Str.ofString "same"))))) (seq (setT (.tp [7, 8]) (v 1)) (seq (setO 5 (lst [])) (seq (forI (rangeM range1 [eN lenD [v 7]]) (.nm 6) (forI (rangeM range1 [v 6]) (.nm 9) (append 5 (eN absD [e2 subD (e2 mulD (e2 ixD (v 7) (v 6)) (e2 ixD (v 8) (v 9))) (e2 mulD (e2 ixD (v 7) (v 9)) (e2 ixD (v 8) (v 6)))])))) (retS (eN sortZD [bv 5]))))) (skip)) (seq (ifS (andT (tst (e2 eqD (e2 ixD (v 2) (c (.int 0))) (c (.str (PySem.Str.ofString "on"))))) (tst (e2 eqD (eN lenD [e2 ixD (v 1) (c (.int 1))]) (c (.int 3))))) (retS (lst [eN absD [callM d_law_law_dot [false, false] false [e2 ixD (v 1) (c (.int 0)), e2 ixD (v 1) (c (.int 1))]]])) (skip)) (seq (ifS (tst (e2 eqD (e2 ixD (v 2) (c (.int 0))) (c (.str (PySem.Str.ofString "on"))))) (retS (lst [eN absD [callM d_law_law_dot [false, false] false [e2 ixD (v 1) (c (.int 0)), callM d_law_law_times [false, false] false [e2 ixD (v 1) (c (.int 1)), e2 ixD (v 1) (c (.int 0))]]]])) (skip)) (seq (ifS (orT (tst (e2 eqD (e2 ixD (v 2) (c (.int 0))) (c (.str (PySem.Str.ofString "row"))))) (tst (e2 eqD (e2 ixD (v 2) (c (.int 0))) (c (.str (PySem.Str.ofString "bunch")))))) (retS (lst [eN absD [callM d_law_law_turn [false, false, false] false [e2 ixD (v 1) (c (.int 0)), e2 ixD (v 1) (c (.int 1)), e2 ixD (v 1) (c (.int 2))]]])) (skip)) (seq (setV 3 (nl (callM d_law_law_rows_of [false] true [e2 ixD (v 1) (e1 negD (c (.int 1)))]))) (seq (ifS (tst (e2 eqD (e2 ixD (v 2) (c (.int 0))) (c (.str (PySem.Str.ofString "parted"))))) (retS (lst [eN absD [callM d_law_law_turn [false, false, false] false [e2 ixD (v 3) (c (.int 0)), e2 ixD (v 3) (c (.int 1)), e2 ixD (v 3) (c (.int 2))]]])) (skip)) (seq (setV 4 (lst [callM d_law_law_cross [false, false] false [e2 ixD (v 3) (c (.int 1)), e2 ixD (v 3) (c (.int 2))], callM d_law_law_cross [false, false] false [e2 ixD (v 3) (c (.int 2)), e2 ixD (v 3) (c (.int 0))], callM d_law_law_cross [false, false] false [e2 ixD (v 3) (c (.int 0)), e2 ixD (v 3) (c (.int 1))]])) (retS (lst [eN absD [callM d_law_law_dot [false, false] false [e2 ixD (v 1) (c (.int 0)), eN tupleD [lcI (itemsM (v 4)) (.nm 10) [10] (yes) (callM d_law_law_dot [false, false] false [v 10, e2 ixD (v 1) (c (.int 0))])]]]]))))))))
def d_law_law_numbers : FD := runD [false, false, false] false 8 b_law_law_numbers
def b_law_law_things : S :=
  seq (setO 3 (lst [])) (seq (forI (rangeM range1 [eN lenD [v 1]]) (.nm 4) (seq (setO 5 (callM d_law_law_bag [false] true [e2 fdivD (callM d_law_law_cell [false, false] false [v 0, e2 addD (c (.int 3)) (v 4)]) (e2 powD (c (.int 10)) (c (.int 12)))])) (seq (setV 6 (lcB 3 (.nm 7) [7] (tst (e2 eqD (eN lenD [v 7]) (e2 addD (c (.int 3)) (e2 mulD (c (.int 3)) (eN intD [e2 eqD (e2 ixD (e2 ixD (v 1) (v 4)) (c (.int 0))) (c (.str (PySem.Str.ofString "curve")))]))))) (v 7))) (ifS (andT (tst (e2 eqD (callM d_law_law_draw [true, false] false [b 5, c (.int 4)]) (c (.int 0)))) (tst (e2 gtD (eN lenD [v 6]) (c (.int 0))))) (append 3 (e2 ixD (v 6) (callM d_law_law_draw [true, false] false [b 5, eN lenD [v 6]]))) (append 3 (callM d_law_law_thing [true, false, false, false] false [b 5, v 2, callM d_law_law_sort [false] false [e2 ixD (v 1) (v 4)], c (.int 4)])))))) (retO 3))
def d_law_law_things : FD := runD [false, false, false] true 5 b_law_law_things
def b_law_law_claim_good : S :=
  seq (setV 5 (lst [eN listD [v 0], eN listD [v 1]])) (seq (setV 6 (nl (callM d_raws_claim_sums [false, false, false] true [e2 ixD (v 5) (c (.int 0)), e2 ixD (v 5) (c (.int 1)), v 2]))) (seq (ifS (orT (notT (tst (e1 (isiD "list") (v 6)))) (tst (e2 neD (v 5) (lst [v 0, v 1])))) (retS (c (.bool false))) (skip)) (seq (ifS (tst (e2 gtD (eN lenD [lcI (itemsM (v 6)) (.nm 10) [10] (notT (tst (callM d_law_law_sum_good [false, false] false [v 10, v 3]))) (v 10)]) (c (.int 0)))) (retS (c (.bool false))) (skip)) (seq (forI (itemsM (v 4)) (.nm 7) (seq (setV 8 (lcI (itemsM (slc (some (c (.int 1))) none (v 2))) (.nm 9) [9] (yes) (eN tupleD [lcI (itemsM (e2 ixD (v 1) (v 9))) (.nm 10) [10] (yes) (callM d_law_law_at [false, false] false [v 10, v 7])]))) (ifS (tst (e2 neD (eN sortZD [lcI (itemsM (v 6)) (.nm 10) [10] (yes) (eN absD [callM d_law_law_at [false, false] false [v 10, v 7]])]) (callM d_law_law_numbers [false, false, false] false [v 0, v 8, v 2]))) (retS (c (.bool false))) (skip)))) (retS (c (.bool true)))))))
def d_law_law_claim_good : FD := runD [false, false, false, false, false] false 6 b_law_law_claim_good
def b_law_law : S :=
  seq (setV 1 (e2 addD (c (.int 1)) (e2 modD (callM d_law_law_cell [false, false] false [v 0, c (.int 0)]) (c (.int 7))))) (seq (setV 2 (eN max2D [v 1, e2 addD (c (.int 1)) (e2 modD (e2 fdivD (callM d_law_law_cell [false, false] false [v 0, c (.int 0)]) (c (.int 7))) (c (.int 12)))])) (seq (setV 3 (e2 mulD (c (.int 2)) (eN max2D [c (.int 0), e2 subD (v 1) (c (.int 4))]))) (seq (setO 4 (lst [])) (seq (forI (rangeM range1 [v 2]) (.nm 5) (append 4 (callT d_law_law_row [true, false, false] false (callM d_law_law_bag [false] true [callM d_law_law_cell [false, false] false [v 0, e2 addD (c (.int 3)) (v 5)]]) [b 4, v 1]))) (seq (setV 6 (nl (callM d_law_law_things [false, false, false] true [v 0, bv 4, v 3]))) (seq (setO 7 (callM d_law_law_bag [false] true [callM d_law_law_cell [false, false] false [v 0, c (.int 2)]])) (seq (setV 8 (lcI (rangeM range1 [c (.int 3)]) (.nm 9) [9] (yes) (eN tupleD [lcI (rangeM range1 [v 3]) (.nm 5) [5] (yes) (e2 subD (callM d_law_law_draw [true, false] false [b 7, c (.int 7)]) (c (.int 3)))]))) (seq (forI (rangeM range1 [v 2]) (.nm 5) (ifS (tst (e2 eqD (e2 ixD (e2 ixD (bv 4) (v 5)) (c (.int 0))) (c (.str (PySem.Str.ofString "other"))))) (seq (setV 10 (callM d_raws_tie [false, false, false] false [eN listD [bv 4], eN listD [v 6], v 5])) (seq (ifS (notT (tst (callM d_law_law_sum_good [false, false] false [v 10, v 3]))) (retS (c (.bool false))) (skip)) (forI (itemsM (v 8)) (.nm 11) (seq (setV 12 (lcI (itemsM (slc (some (c (.int 1))) none (e2 ixD (bv 4) (v 5)))) (.nm 13) [13] (yes) (eN tupleD [lcI (itemsM (e2 ixD (v 6) (v 13))) (.nm 14) [14] (yes) (callM d_law_law_at [false, false] false [v 14, v 11])]))) (ifS (tst (e2 neD (callM d_law_law_at [false, false] false [v 10, v 11]) (callM d_law_law_dot [false, false] false [e2 ixD (v 12) (c (.int 1)), callM d_law_law_times [false, false] false [e2 ixD (v 12) (c (.int 0)), e2 ixD (v 12) (c (.int 1))]]))) (retS (c (.bool false))) (skip)))))) (skip))) (seq (setO 7 (callM d_law_law_bag [false] true [callM d_law_law_cell [false, false] false [v 0, c (.int 1)]])) (seq (forI (rangeM range1 [c (.int 6)]) (.nm 9) (ifS (notT (tst (callM d_law_law_claim_good [false, false, false, false, false] false [bv 4, v 6, callM d_law_law_claim [true, false] false [b 7, bv 4], v 3, v 8]))) (retS (c (.bool false))) (skip))) (retS (c (.bool true)))))))))))))
def d_law_law : FD := runD [false] false 14 b_law_law
end
end Dn


namespace L72
open PySem PySem.Spec PyProof.Rows L2 Dn
def topS (i : Nat) : Stmt := PySem.Challenge.pw_easelroom_k72_ties_and_claims_at_numbers.main.body.getD i (.Pass ⟨0, 0, 0, 0⟩)
structure NB (mg : Str → Option Value) : Prop where
  b_abs : mg "abs" = none
  b_bool : mg "bool" = none
  b_dict : mg "dict" = none
  b_int : mg "int" = none
  b_isinstance : mg "isinstance" = none
  b_len : mg "len" = none
  b_list : mg "list" = none
  b_max : mg "max" = none
  b_min : mg "min" = none
  b_range : mg "range" = none
  b_sorted : mg "sorted" = none
  b_tuple : mg "tuple" = none
  b_zip : mg "zip" = none
abbrev s2 : Stmt := topS 2
theorem sc2 : FnScope ["rows", "k"] ["rows", "k"] (defScope s2) := ⟨rfl, rfl, rfl, by decide +kernel, rfl, by decide +kernel, by decide +kernel⟩
abbrev s10 : Stmt := topS 10
theorem sc10 : FnScope ["found", "terms", "powers"] ["found"] (defScope s10) := ⟨rfl, rfl, rfl, by decide +kernel, rfl, by decide +kernel, by decide +kernel⟩
abbrev s11 : Stmt := topS 11
theorem sc11 : FnScope ["one", "other", "found", "powers", "number"] ["one", "other"] (defScope s11) := ⟨rfl, rfl, rfl, by decide +kernel, rfl, by decide +kernel, by decide +kernel⟩
abbrev s12 : Stmt := topS 12
theorem sc12 : FnScope ["one", "powers", "number"] ["one"] (defScope s12) := ⟨rfl, rfl, rfl, by decide +kernel, rfl, by decide +kernel, by decide +kernel⟩
abbrev s13 : Stmt := topS 13
theorem sc13 : FnScope ["one", "other"] ["one", "other"] (defScope s13) := ⟨rfl, rfl, rfl, by decide +kernel, rfl, by decide +kernel, by decide +kernel⟩
abbrev s14 : Stmt := topS 14
theorem sc14 : FnScope ["powers", "others", "power", "more"] ["powers", "others"] (defScope s14) := ⟨rfl, rfl, rfl, by decide +kernel, rfl, by decide +kernel, by decide +kernel⟩
abbrev s15 : Stmt := topS 15
theorem sc15 : FnScope ["one", "found", "powers", "number", "power", "most"] ["one"] (defScope s15) := ⟨rfl, rfl, rfl, by decide +kernel, rfl, by decide +kernel, by decide +kernel⟩
abbrev s16 : Stmt := topS 16
theorem sc16 : FnScope ["one", "other", "found", "powers", "number", "others", "factor", "both", "power", "more"] ["one", "other"] (defScope s16) := ⟨rfl, rfl, rfl, by decide +kernel, rfl, by decide +kernel, by decide +kernel⟩
abbrev s18 : Stmt := topS 18
theorem sc18 : FnScope ["one", "other", "told", "i", "j"] ["one", "other"] (defScope s18) := ⟨rfl, rfl, rfl, by decide +kernel, rfl, by decide +kernel, by decide +kernel⟩
abbrev s19 : Stmt := topS 19
theorem sc19 : FnScope ["one", "other"] ["one", "other"] (defScope s19) := ⟨rfl, rfl, rfl, by decide +kernel, rfl, by decide +kernel, by decide +kernel⟩
abbrev s20 : Stmt := topS 20
theorem sc20 : FnScope ["curve", "a", "b", "c", "d", "e", "f"] ["curve"] (defScope s20) := ⟨rfl, rfl, rfl, by decide +kernel, rfl, by decide +kernel, by decide +kernel⟩
abbrev s21 : Stmt := topS 21
theorem sc21 : FnScope ["rows"] ["rows"] (defScope s21) := ⟨rfl, rfl, rfl, by decide +kernel, rfl, by decide +kernel, by decide +kernel⟩
abbrev s22 : Stmt := topS 22
theorem sc22 : FnScope ["rows", "thing", "row"] ["rows", "thing"] (defScope s22) := ⟨rfl, rfl, rfl, by decide +kernel, rfl, by decide +kernel, by decide +kernel⟩
abbrev s23 : Stmt := topS 23
theorem sc23 : FnScope ["rows", "things", "k", "spot"] ["rows", "things", "k"] (defScope s23) := ⟨rfl, rfl, rfl, by decide +kernel, rfl, by decide +kernel, by decide +kernel⟩
abbrev s24 : Stmt := topS 24
theorem sc24 : FnScope ["rows", "things", "claim", "named", "table", "pairs", "number", "one", "other", "i", "j"] ["rows", "things", "claim"] (defScope s24) := ⟨rfl, rfl, rfl, by decide +kernel, rfl, by decide +kernel, by decide +kernel⟩
abbrev s28 : Stmt := topS 28
theorem sc28 : FnScope ["script", "k"] ["script", "k"] (defScope s28) := ⟨rfl, rfl, rfl, by decide +kernel, rfl, by decide +kernel, by decide +kernel⟩
abbrev s29 : Stmt := topS 29
theorem sc29 : FnScope ["cell"] ["cell"] (defScope s29) := ⟨rfl, rfl, rfl, by decide +kernel, rfl, by decide +kernel, by decide +kernel⟩
abbrev s30 : Stmt := topS 30
theorem sc30 : FnScope ["bag", "many", "found"] ["bag", "many"] (defScope s30) := ⟨rfl, rfl, rfl, by decide +kernel, rfl, by decide +kernel, by decide +kernel⟩
abbrev s31 : Stmt := topS 31
theorem sc31 : FnScope ["word", "asks"] ["word"] (defScope s31) := ⟨rfl, rfl, rfl, by decide +kernel, rfl, by decide +kernel, by decide +kernel⟩
abbrev s32 : Stmt := topS 32
theorem sc32 : FnScope ["row"] ["row"] (defScope s32) := ⟨rfl, rfl, rfl, by decide +kernel, rfl, by decide +kernel, by decide +kernel⟩
abbrev s33 : Stmt := topS 33
theorem sc33 : FnScope ["bag", "rows", "sort", "numbers", "k"] ["bag", "rows", "sort"] (defScope s33) := ⟨rfl, rfl, rfl, by decide +kernel, rfl, by decide +kernel, by decide +kernel⟩
abbrev s34 : Stmt := topS 34
theorem sc34 : FnScope ["bag", "rows", "frees", "sorts", "words", "word", "lacking", "row", "sort"] ["bag", "rows", "frees"] (defScope s34) := ⟨rfl, rfl, rfl, by decide +kernel, rfl, by decide +kernel, by decide +kernel⟩
abbrev s35 : Stmt := topS 35
theorem sc35 : FnScope ["one", "other", "a", "b", "c", "d", "e", "f"] ["one", "other"] (defScope s35) := ⟨rfl, rfl, rfl, by decide +kernel, rfl, by decide +kernel, by decide +kernel⟩
abbrev s36 : Stmt := topS 36
theorem sc36 : FnScope ["one", "other"] ["one", "other"] (defScope s36) := ⟨rfl, rfl, rfl, by decide +kernel, rfl, by decide +kernel, by decide +kernel⟩
abbrev s37 : Stmt := topS 37
theorem sc37 : FnScope ["one", "other", "third"] ["one", "other", "third"] (defScope s37) := ⟨rfl, rfl, rfl, by decide +kernel, rfl, by decide +kernel, by decide +kernel⟩
abbrev s38 : Stmt := topS 38
theorem sc38 : FnScope ["curve", "a", "b", "c", "d", "e", "f"] ["curve"] (defScope s38) := ⟨rfl, rfl, rfl, by decide +kernel, rfl, by decide +kernel, by decide +kernel⟩
abbrev s39 : Stmt := topS 39
theorem sc39 : FnScope ["curve", "row", "one"] ["curve", "row"] (defScope s39) := ⟨rfl, rfl, rfl, by decide +kernel, rfl, by decide +kernel, by decide +kernel⟩
abbrev s40 : Stmt := topS 40
theorem sc40 : FnScope ["one", "numbers", "found", "powers", "number", "power", "letter", "lap"] ["one", "numbers"] (defScope s40) := ⟨rfl, rfl, rfl, by decide +kernel, rfl, by decide +kernel, by decide +kernel⟩
abbrev s41 : Stmt := topS 41
theorem sc41 : FnScope ["thing", "letters", "ahead", "term", "number"] ["thing", "letters"] (defScope s41) := ⟨rfl, rfl, rfl, by decide +kernel, rfl, by decide +kernel, by decide +kernel⟩
abbrev s42 : Stmt := topS 42
theorem sc42 : FnScope ["bag", "letters", "top", "way", "number", "letter", "powers", "both", "k"] ["bag", "letters", "top"] (defScope s42) := ⟨rfl, rfl, rfl, by decide +kernel, rfl, by decide +kernel, by decide +kernel⟩
abbrev s43 : Stmt := topS 43
theorem sc43 : FnScope ["bag", "letters", "sort", "top", "said", "k", "term"] ["bag", "letters", "sort", "top"] (defScope s43) := ⟨rfl, rfl, rfl, by decide +kernel, rfl, by decide +kernel, by decide +kernel⟩
abbrev s44 : Stmt := topS 44
theorem sc44 : FnScope ["bag", "rows", "sorts", "word", "first", "asks", "row", "sort"] ["bag", "rows"] (defScope s44) := ⟨rfl, rfl, rfl, by decide +kernel, rfl, by decide +kernel, by decide +kernel⟩
abbrev s45 : Stmt := topS 45
theorem sc45 : FnScope ["rows", "some", "claim", "table", "swung", "found", "i", "one", "other", "j", "row"] ["rows", "some", "claim"] (defScope s45) := ⟨rfl, rfl, rfl, by decide +kernel, rfl, by decide +kernel, by decide +kernel⟩
abbrev s46 : Stmt := topS 46
theorem sc46 : FnScope ["script", "rows", "letters", "things", "k", "bag", "ahead", "thing"] ["script", "rows", "letters"] (defScope s46) := ⟨rfl, rfl, rfl, by decide +kernel, rfl, by decide +kernel, by decide +kernel⟩
abbrev s47 : Stmt := topS 47
theorem sc47 : FnScope ["rows", "things", "claim", "letters", "spots", "handed", "found", "numbers", "some", "number", "part"] ["rows", "things", "claim", "letters", "spots"] (defScope s47) := ⟨rfl, rfl, rfl, by decide +kernel, rfl, by decide +kernel, by decide +kernel⟩
abbrev s48 : Stmt := topS 48
theorem sc48 : FnScope ["script", "frees", "size", "letters", "rows", "k", "things", "bag", "spots", "lap", "found", "numbers", "some", "number", "part"] ["script"] (defScope s48) := ⟨rfl, rfl, rfl, by decide +kernel, rfl, by decide +kernel, by decide +kernel⟩
section
variable {P : Program} {w : World} {K : PySem.W.Frag} {mg : Str → Option Value} {base : Heap} {c : Kc}
theorem w2_sort_of {f : Addr} (nb : NB mg) (tkc : TKc c zLaw) (g_SORTS : KOk K w mg c "SORTS" k_SORTS) : ∀ (cdv : Value) (A : Around) (outer : List PySem.Env) (s : Shared) (H : Hp) (E : XK), SB (bCx P w K mg base ["rows", "k"] "sort_of" s2 f cdv A outer s H E) c (bW E) 0 false (defBody s2) b_drawings_sort_of := fun _ _ _ _ _ _ =>
  (b_one (s_ret (e_ix (e_kix g_SORTS (e_ix (e_ix (e_v 0) (e_v 1) (fun k => ix_D k.hK)) e_int (fun k => ix_D k.hK))) e_int (fun k => ix_D k.hK))))
theorem w2_sort_of_ok {f : Addr} {fd : FuncData} (nb : NB mg) (hK : c.K = K) (tkc : TKc c zLaw) (g_SORTS : KOk K w mg c "SORTS" k_SORTS) (Fn : Fun K "sort_of" "sort_of" s2 f fd) (hm : mg "sort_of" = some (.ref f)) : DefOk P w K mg base c "sort_of" d_drawings_sort_of [false, false] false 1 :=
  ⟨f, fd, ["rows", "k"], def_ok Fn sc2 rfl rfl hK (w2_sort_of nb tkc g_SORTS), hm, Fn.kp, Fn.binds fun _ _ _ _ _ _ us hl => match us, hl with | [_, _], _ => rfl⟩
theorem w10_in_order {f : Addr} (nb : NB mg) (tkc : TKc c zLaw) (g_MOST_TERMS : GOk mg c "MOST_TERMS" k_MOST_TERMS) : ∀ (cdv : Value) (A : Around) (outer : List PySem.Env) (s : Shared) (H : Hp) (E : XK), SB (bCx P w K mg base ["found", "terms", "powers"] "in_order" s10 f cdv A outer s H E) c (bW E) 0 false (defBody s10) b_letters_in_order := fun _ _ _ _ _ _ =>
  (b_cons (s_setVLc (i := 1) (own := [(PySem.Str.ofString "powers", 2)]) (i_any (e_tsort (a_cons (e_b 0) a_nil) nb.b_sorted (by decide +kernel))) ⟨fun _ _ _ _ _ => (g_nm sc10.nd), fun _ _ _ _ _ => (ts_one (t_cmp (e_tix tkc (e_b 0) (e_v 2)) e_int (fun k => op_neD1 k.hK k.hu))), fun _ _ _ _ _ => (e_tup (a_cons (e_v 2) (a_cons (e_tix tkc (e_b 0) (e_v 2)) a_nil)))⟩ (by kernel_rfl))
  (b_cons (s_if (t_cmp (e_blt (fun k => call_lenD k.hK) (a_cons (e_v 1) a_nil) nb.b_len (by decide +kernel)) (e_gk g_MOST_TERMS) (fun _ => op_gtD)) (b_one s_stuck) b_nil)
  (b_one (s_ret (e_tupF (a_cons (e_v 1) a_nil) nb.b_tuple (by decide +kernel))))))
theorem w10_in_order_ok {f : Addr} {fd : FuncData} (nb : NB mg) (hK : c.K = K) (tkc : TKc c zLaw) (g_MOST_TERMS : GOk mg c "MOST_TERMS" k_MOST_TERMS) (Fn : Fun K "in_order" "in_order" s10 f fd) (hm : mg "in_order" = some (.ref f)) : DefOk P w K mg base c "in_order" d_letters_in_order [true] false 1 :=
  ⟨f, fd, ["found"], def_ok Fn sc10 rfl rfl hK (w10_in_order nb tkc g_MOST_TERMS), hm, Fn.kp, Fn.binds fun _ _ _ _ _ _ us hl => match us, hl with | [_], _ => rfl⟩
theorem w11_plus {f : Addr} (nb : NB mg) (tkc : TKc c zLaw) (h_in_order : DefOk P w K mg base c "in_order" d_letters_in_order [true] false 1) : ∀ (cdv : Value) (A : Around) (outer : List PySem.Env) (s : Shared) (H : Hp) (E : XK), SB (bCx P w K mg base ["one", "other", "found", "powers", "number"] "plus" s11 f cdv A outer s H E) c (bW E) 1 false (defBody s11) b_letters_plus := fun _ _ _ _ _ _ =>
  (b_cons (s_setO (i := 2) (n_dictF tkc (a_cons (e_v 0) a_nil) nb.b_dict (by decide +kernel)))
  (b_cons (s_for (i_any (e_v 1)) (g_tp (gs_cons sc11.nd (gs_cons sc11.nd gs_nil))) (b_one (s_tput (i := 2) tkc (e_op (e_tget tkc (e_b 2) (e_v 3) e_int) (e_v 4) (fun k => op_addD k.hK)) (e_v 3))))
  (b_one (s_ret (e_call h_in_order (by decide) (a_cons (e_b 2) a_nil))))))
theorem w11_plus_ok {f : Addr} {fd : FuncData} (nb : NB mg) (hK : c.K = K) (tkc : TKc c zLaw) (h_in_order : DefOk P w K mg base c "in_order" d_letters_in_order [true] false 1) (Fn : Fun K "plus" "plus" s11 f fd) (hm : mg "plus" = some (.ref f)) : DefOk P w K mg base c "plus" d_letters_plus [false, false] false 2 :=
  ⟨f, fd, ["one", "other"], def_ok Fn sc11 rfl rfl hK (w11_plus nb tkc h_in_order), hm, Fn.kp, Fn.binds fun _ _ _ _ _ _ us hl => match us, hl with | [_, _], _ => rfl⟩
theorem w12_turned {f : Addr} (nb : NB mg) (tkc : TKc c zLaw) : ∀ (cdv : Value) (A : Around) (outer : List PySem.Env) (s : Shared) (H : Hp) (E : XK), SB (bCx P w K mg base ["one", "powers", "number"] "turned" s12 f cdv A outer s H E) c (bW E) 0 false (defBody s12) b_letters_turned := fun _ _ _ _ _ _ =>
  (b_one (s_ret (e_tupF (a_cons (e_lc (own := [(PySem.Str.ofString "powers", 1), (PySem.Str.ofString "number", 2)]) (i_any (e_v 0)) ⟨fun _ _ _ _ _ => (g_tp (gs_cons sc12.nd (gs_cons sc12.nd gs_nil))), fun _ _ _ _ _ => ts_nil, fun _ _ _ _ _ => (e_tup (a_cons (e_v 1) (a_cons (e_op e_int (e_v 2) (fun _ => op_subD)) a_nil)))⟩ (by kernel_rfl)) a_nil) nb.b_tuple (by decide +kernel))))
theorem w12_turned_ok {f : Addr} {fd : FuncData} (nb : NB mg) (hK : c.K = K) (tkc : TKc c zLaw) (Fn : Fun K "turned" "turned" s12 f fd) (hm : mg "turned" = some (.ref f)) : DefOk P w K mg base c "turned" d_letters_turned [false] false 1 :=
  ⟨f, fd, ["one"], def_ok Fn sc12 rfl rfl hK (w12_turned nb tkc), hm, Fn.kp, Fn.binds fun _ _ _ _ _ _ us hl => match us, hl with | [_], _ => rfl⟩
theorem w13_minus {f : Addr} (nb : NB mg) (tkc : TKc c zLaw) (h_plus : DefOk P w K mg base c "plus" d_letters_plus [false, false] false 2) (h_turned : DefOk P w K mg base c "turned" d_letters_turned [false] false 1) : ∀ (cdv : Value) (A : Around) (outer : List PySem.Env) (s : Shared) (H : Hp) (E : XK), SB (bCx P w K mg base ["one", "other"] "minus" s13 f cdv A outer s H E) c (bW E) 2 false (defBody s13) b_letters_minus := fun _ _ _ _ _ _ =>
  (b_one (s_ret (e_call h_plus (by decide) (a_cons (e_v 0) (a_cons (e_call h_turned (by decide) (a_cons (e_v 1) a_nil)) a_nil)))))
theorem w13_minus_ok {f : Addr} {fd : FuncData} (nb : NB mg) (hK : c.K = K) (tkc : TKc c zLaw) (h_plus : DefOk P w K mg base c "plus" d_letters_plus [false, false] false 2) (h_turned : DefOk P w K mg base c "turned" d_letters_turned [false] false 1) (Fn : Fun K "minus" "minus" s13 f fd) (hm : mg "minus" = some (.ref f)) : DefOk P w K mg base c "minus" d_letters_minus [false, false] false 3 :=
  ⟨f, fd, ["one", "other"], def_ok Fn sc13 rfl rfl hK (w13_minus nb tkc h_plus h_turned), hm, Fn.kp, Fn.binds fun _ _ _ _ _ _ us hl => match us, hl with | [_, _], _ => rfl⟩
theorem w14_together {f : Addr} (nb : NB mg) (tkc : TKc c zLaw) : ∀ (cdv : Value) (A : Around) (outer : List PySem.Env) (s : Shared) (H : Hp) (E : XK), SB (bCx P w K mg base ["powers", "others", "power", "more"] "together" s14 f cdv A outer s H E) c (bW E) 0 false (defBody s14) b_letters_together := fun _ _ _ _ _ _ =>
  (b_one (s_ret (e_ty (fun k => call_tupleD k.hK) (a_cons (e_lc (own := [(PySem.Str.ofString "power", 2), (PySem.Str.ofString "more", 3)]) (i_zip (e_v 0) (e_v 1) nb.b_zip) ⟨fun _ _ _ _ _ => (g_tp (gs_cons sc14.nd (gs_cons sc14.nd gs_nil))), fun _ _ _ _ _ => ts_nil, fun _ _ _ _ _ => (e_op (e_v 2) (e_v 3) (fun k => op_addD k.hK))⟩ (by kernel_rfl)) a_nil) nb.b_tuple (by decide +kernel))))
theorem w14_together_ok {f : Addr} {fd : FuncData} (nb : NB mg) (hK : c.K = K) (tkc : TKc c zLaw) (Fn : Fun K "together" "together" s14 f fd) (hm : mg "together" = some (.ref f)) : DefOk P w K mg base c "together" d_letters_together [false, false] false 1 :=
  ⟨f, fd, ["powers", "others"], def_ok Fn sc14 rfl rfl hK (w14_together nb tkc), hm, Fn.kp, Fn.binds fun _ _ _ _ _ _ us hl => match us, hl with | [_, _], _ => rfl⟩
theorem w15_heights {f : Addr} (nb : NB mg) (tkc : TKc c zLaw) : ∀ (cdv : Value) (A : Around) (outer : List PySem.Env) (s : Shared) (H : Hp) (E : XK), SB (bCx P w K mg base ["one", "found", "powers", "number", "power", "most"] "heights" s15 f cdv A outer s H E) c (bW E) 0 false (defBody s15) b_letters_heights := fun _ _ _ _ _ _ =>
  (b_cons (s_setV (i := 1) (e_lst a_nil))
  (b_cons (s_for (i_any (e_v 0)) (g_tp (gs_cons sc15.nd (gs_cons sc15.nd gs_nil))) (b_cons (s_if (t_cmp (e_blt (fun k => call_lenD k.hK) (a_cons (e_v 1) a_nil) nb.b_len (by decide +kernel)) e_int (fun k => op_eqD1 k.hK k.hu)) (b_one (s_setV (i := 1) (e_ty (fun k => call_listDK k.hK) (a_cons (e_v 2) a_nil) nb.b_list (by decide +kernel)))) b_nil)
  (b_one (s_setVLc (i := 1) (own := [(PySem.Str.ofString "power", 4), (PySem.Str.ofString "most", 5)]) (i_zip (e_v 2) (e_v 1) nb.b_zip) ⟨fun _ _ _ _ _ => (g_tp (gs_cons sc15.nd (gs_cons sc15.nd gs_nil))), fun _ _ _ _ _ => ts_nil, fun _ _ _ _ _ => (e_blt (fun k => call_max2D k.calm) (a_cons (e_v 4) (a_cons (e_v 5) a_nil)) nb.b_max (by decide +kernel))⟩ (by kernel_rfl)))))
  (b_one (s_ret (e_v 1)))))
theorem w15_heights_ok {f : Addr} {fd : FuncData} (nb : NB mg) (hK : c.K = K) (tkc : TKc c zLaw) (Fn : Fun K "heights" "heights" s15 f fd) (hm : mg "heights" = some (.ref f)) : DefOk P w K mg base c "heights" d_letters_heights [false] false 1 :=
  ⟨f, fd, ["one"], def_ok Fn sc15 rfl rfl hK (w15_heights nb tkc), hm, Fn.kp, Fn.binds fun _ _ _ _ _ _ us hl => match us, hl with | [_], _ => rfl⟩
theorem w16_times {f : Addr} (nb : NB mg) (tkc : TKc c zLaw) (g_MOST_PAIRS : GOk mg c "MOST_PAIRS" k_MOST_PAIRS) (g_MOST_POWER : GOk mg c "MOST_POWER" k_MOST_POWER) (h_in_order : DefOk P w K mg base c "in_order" d_letters_in_order [true] false 1) (h_together : DefOk P w K mg base c "together" d_letters_together [false, false] false 1) (h_heights : DefOk P w K mg base c "heights" d_letters_heights [false] false 1) : ∀ (cdv : Value) (A : Around) (outer : List PySem.Env) (s : Shared) (H : Hp) (E : XK), SB (bCx P w K mg base ["one", "other", "found", "powers", "number", "others", "factor", "both", "power", "more"] "times" s16 f cdv A outer s H E) c (bW E) 1 false (defBody s16) b_letters_times := fun _ _ _ _ _ _ =>
  (b_cons (s_if (t_cmp (e_op (e_blt (fun k => call_lenD k.hK) (a_cons (e_v 0) a_nil) nb.b_len (by decide +kernel)) (e_blt (fun k => call_lenD k.hK) (a_cons (e_v 1) a_nil) nb.b_len (by decide +kernel)) (fun k => op_mulD k.hK)) (e_gk g_MOST_PAIRS) (fun _ => op_gtD)) (b_one s_stuck) b_nil)
  (b_cons (s_if (t_cmp (e_max0 (a_cons (e_lc (own := [(PySem.Str.ofString "power", 8), (PySem.Str.ofString "more", 9)]) (i_zip (e_call h_heights (by decide) (a_cons (e_v 0) a_nil)) (e_call h_heights (by decide) (a_cons (e_v 1) a_nil)) nb.b_zip) ⟨fun _ _ _ _ _ => (g_tp (gs_cons sc16.nd (gs_cons sc16.nd gs_nil))), fun _ _ _ _ _ => ts_nil, fun _ _ _ _ _ => (e_op (e_v 8) (e_v 9) (fun k => op_addD k.hK))⟩ (by kernel_rfl)) a_nil) nb.b_max (by decide +kernel)) (e_gk g_MOST_POWER) (fun _ => op_gtD)) (b_one s_stuck) b_nil)
  (b_cons (s_setO (i := 2) n_newT)
  (b_cons (s_for (i_any (e_v 0)) (g_tp (gs_cons sc16.nd (gs_cons sc16.nd gs_nil))) (b_one (s_for (i_any (e_v 1)) (g_tp (gs_cons sc16.nd (gs_cons sc16.nd gs_nil))) (b_cons (s_setV (i := 7) (e_call h_together (by decide) (a_cons (e_v 3) (a_cons (e_v 5) a_nil))))
  (b_one (s_tput (i := 2) tkc (e_op (e_tget tkc (e_b 2) (e_v 7) e_int) (e_op (e_v 4) (e_v 6) (fun k => op_mulD k.hK)) (fun k => op_addD k.hK)) (e_v 7)))))))
  (b_one (s_ret (e_call h_in_order (by decide) (a_cons (e_b 2) a_nil))))))))
theorem w16_times_ok {f : Addr} {fd : FuncData} (nb : NB mg) (hK : c.K = K) (tkc : TKc c zLaw) (g_MOST_PAIRS : GOk mg c "MOST_PAIRS" k_MOST_PAIRS) (g_MOST_POWER : GOk mg c "MOST_POWER" k_MOST_POWER) (h_in_order : DefOk P w K mg base c "in_order" d_letters_in_order [true] false 1) (h_together : DefOk P w K mg base c "together" d_letters_together [false, false] false 1) (h_heights : DefOk P w K mg base c "heights" d_letters_heights [false] false 1) (Fn : Fun K "times" "times" s16 f fd) (hm : mg "times" = some (.ref f)) : DefOk P w K mg base c "times" d_letters_times [false, false] false 2 :=
  ⟨f, fd, ["one", "other"], def_ok Fn sc16 rfl rfl hK (w16_times nb tkc g_MOST_PAIRS g_MOST_POWER h_in_order h_together h_heights), hm, Fn.kp, Fn.binds fun _ _ _ _ _ _ us hl => match us, hl with | [_, _], _ => rfl⟩
theorem w18_crossed {f : Addr} (nb : NB mg) (tkc : TKc c zLaw) (h_minus : DefOk P w K mg base c "minus" d_letters_minus [false, false] false 3) (h_times : DefOk P w K mg base c "times" d_letters_times [false, false] false 2) : ∀ (cdv : Value) (A : Around) (outer : List PySem.Env) (s : Shared) (H : Hp) (E : XK), SB (bCx P w K mg base ["one", "other", "told", "i", "j"] "crossed" s18 f cdv A outer s H E) c (bW E) 3 false (defBody s18) b_raws_crossed := fun _ _ _ _ _ _ =>
  (b_cons (s_setO (i := 2) (n_lst a_nil))
  (b_cons (s_for (i_any (e_tup (a_cons (e_tup (a_cons e_int (a_cons e_int a_nil))) (a_cons (e_tup (a_cons e_int (a_cons e_int a_nil))) (a_cons (e_tup (a_cons e_int (a_cons e_int a_nil))) a_nil))))) (g_tp (gs_cons sc18.nd (gs_cons sc18.nd gs_nil))) (b_one (s_app (i := 2) (e_call h_minus (by decide) (a_cons (e_call h_times (by decide) (a_cons (e_ix (e_v 0) (e_v 3) (fun k => ix_D k.hK)) (a_cons (e_ix (e_v 1) (e_v 4) (fun k => ix_D k.hK)) a_nil))) (a_cons (e_call h_times (by decide) (a_cons (e_ix (e_v 0) (e_v 4) (fun k => ix_D k.hK)) (a_cons (e_ix (e_v 1) (e_v 3) (fun k => ix_D k.hK)) a_nil))) a_nil))))))
  (b_one (s_ret (e_ty (fun k => call_tupleD k.hK) (a_cons (e_bv 2) a_nil) nb.b_tuple (by decide +kernel))))))
theorem w18_crossed_ok {f : Addr} {fd : FuncData} (nb : NB mg) (hK : c.K = K) (tkc : TKc c zLaw) (h_minus : DefOk P w K mg base c "minus" d_letters_minus [false, false] false 3) (h_times : DefOk P w K mg base c "times" d_letters_times [false, false] false 2) (Fn : Fun K "crossed" "crossed" s18 f fd) (hm : mg "crossed" = some (.ref f)) : DefOk P w K mg base c "crossed" d_raws_crossed [false, false] false 4 :=
  ⟨f, fd, ["one", "other"], def_ok Fn sc18 rfl rfl hK (w18_crossed nb tkc h_minus h_times), hm, Fn.kp, Fn.binds fun _ _ _ _ _ _ us hl => match us, hl with | [_, _], _ => rfl⟩
theorem w19_dotted {f : Addr} (nb : NB mg) (tkc : TKc c zLaw) (h_plus : DefOk P w K mg base c "plus" d_letters_plus [false, false] false 2) (h_times : DefOk P w K mg base c "times" d_letters_times [false, false] false 2) : ∀ (cdv : Value) (A : Around) (outer : List PySem.Env) (s : Shared) (H : Hp) (E : XK), SB (bCx P w K mg base ["one", "other"] "dotted" s19 f cdv A outer s H E) c (bW E) 2 false (defBody s19) b_raws_dotted := fun _ _ _ _ _ _ =>
  (b_one (s_ret (e_call h_plus (by decide) (a_cons (e_call h_plus (by decide) (a_cons (e_call h_times (by decide) (a_cons (e_ix (e_v 0) e_int (fun k => ix_D k.hK)) (a_cons (e_ix (e_v 1) e_int (fun k => ix_D k.hK)) a_nil))) (a_cons (e_call h_times (by decide) (a_cons (e_ix (e_v 0) e_int (fun k => ix_D k.hK)) (a_cons (e_ix (e_v 1) e_int (fun k => ix_D k.hK)) a_nil))) a_nil))) (a_cons (e_call h_times (by decide) (a_cons (e_ix (e_v 0) e_int (fun k => ix_D k.hK)) (a_cons (e_ix (e_v 1) e_int (fun k => ix_D k.hK)) a_nil))) a_nil)))))
theorem w19_dotted_ok {f : Addr} {fd : FuncData} (nb : NB mg) (hK : c.K = K) (tkc : TKc c zLaw) (h_plus : DefOk P w K mg base c "plus" d_letters_plus [false, false] false 2) (h_times : DefOk P w K mg base c "times" d_letters_times [false, false] false 2) (Fn : Fun K "dotted" "dotted" s19 f fd) (hm : mg "dotted" = some (.ref f)) : DefOk P w K mg base c "dotted" d_raws_dotted [false, false] false 3 :=
  ⟨f, fd, ["one", "other"], def_ok Fn sc19 rfl rfl hK (w19_dotted nb tkc h_plus h_times), hm, Fn.kp, Fn.binds fun _ _ _ _ _ _ us hl => match us, hl with | [_, _], _ => rfl⟩
theorem w20_table_rows {f : Addr} (nb : NB mg) (tkc : TKc c zLaw) (h_plus : DefOk P w K mg base c "plus" d_letters_plus [false, false] false 2) : ∀ (cdv : Value) (A : Around) (outer : List PySem.Env) (s : Shared) (H : Hp) (E : XK), SB (bCx P w K mg base ["curve", "a", "b", "c", "d", "e", "f"] "table_rows" s20 f cdv A outer s H E) c (bW E) 2 true (defBody s20) b_raws_table_rows := fun _ _ _ _ _ _ =>
  (b_cons (s_setT (e_v 0) (gs_cons sc20.nd (gs_cons sc20.nd (gs_cons sc20.nd (gs_cons sc20.nd (gs_cons sc20.nd (gs_cons sc20.nd gs_nil)))))))
  (b_one (s_retN (n_lst (a_cons (e_tup (a_cons (e_call h_plus (by decide) (a_cons (e_v 1) (a_cons (e_v 1) a_nil))) (a_cons (e_v 2) (a_cons (e_v 4) a_nil)))) (a_cons (e_tup (a_cons (e_v 2) (a_cons (e_call h_plus (by decide) (a_cons (e_v 3) (a_cons (e_v 3) a_nil))) (a_cons (e_v 5) a_nil)))) (a_cons (e_tup (a_cons (e_v 4) (a_cons (e_v 5) (a_cons (e_call h_plus (by decide) (a_cons (e_v 6) (a_cons (e_v 6) a_nil))) a_nil)))) a_nil)))))))
theorem w20_table_rows_ok {f : Addr} {fd : FuncData} (nb : NB mg) (hK : c.K = K) (tkc : TKc c zLaw) (h_plus : DefOk P w K mg base c "plus" d_letters_plus [false, false] false 2) (Fn : Fun K "table_rows" "table_rows" s20 f fd) (hm : mg "table_rows" = some (.ref f)) : DefOk P w K mg base c "table_rows" d_raws_table_rows [false] true 3 :=
  ⟨f, fd, ["curve"], def_ok Fn sc20 rfl rfl hK (w20_table_rows nb tkc h_plus), hm, Fn.kp, Fn.binds fun _ _ _ _ _ _ us hl => match us, hl with | [_], _ => rfl⟩
theorem w21_turned_rows {f : Addr} (nb : NB mg) (tkc : TKc c zLaw) (h_crossed : DefOk P w K mg base c "crossed" d_raws_crossed [false, false] false 4) : ∀ (cdv : Value) (A : Around) (outer : List PySem.Env) (s : Shared) (H : Hp) (E : XK), SB (bCx P w K mg base ["rows"] "turned_rows" s21 f cdv A outer s H E) c (bW E) 4 true (defBody s21) b_raws_turned_rows := fun _ _ _ _ _ _ =>
  (b_one (s_retN (n_lst (a_cons (e_call h_crossed (by decide) (a_cons (e_ix (e_v 0) e_int (fun k => ix_D k.hK)) (a_cons (e_ix (e_v 0) e_int (fun k => ix_D k.hK)) a_nil))) (a_cons (e_call h_crossed (by decide) (a_cons (e_ix (e_v 0) e_int (fun k => ix_D k.hK)) (a_cons (e_ix (e_v 0) e_int (fun k => ix_D k.hK)) a_nil))) (a_cons (e_call h_crossed (by decide) (a_cons (e_ix (e_v 0) e_int (fun k => ix_D k.hK)) (a_cons (e_ix (e_v 0) e_int (fun k => ix_D k.hK)) a_nil))) a_nil))))))
theorem w21_turned_rows_ok {f : Addr} {fd : FuncData} (nb : NB mg) (hK : c.K = K) (tkc : TKc c zLaw) (h_crossed : DefOk P w K mg base c "crossed" d_raws_crossed [false, false] false 4) (Fn : Fun K "turned_rows" "turned_rows" s21 f fd) (hm : mg "turned_rows" = some (.ref f)) : DefOk P w K mg base c "turned_rows" d_raws_turned_rows [false] true 5 :=
  ⟨f, fd, ["rows"], def_ok Fn sc21 rfl rfl hK (w21_turned_rows nb tkc h_crossed), hm, Fn.kp, Fn.binds fun _ _ _ _ _ _ us hl => match us, hl with | [_], _ => rfl⟩
theorem w22_led_by {f : Addr} (nb : NB mg) (tkc : TKc c zLaw) (h_dotted : DefOk P w K mg base c "dotted" d_raws_dotted [false, false] false 3) : ∀ (cdv : Value) (A : Around) (outer : List PySem.Env) (s : Shared) (H : Hp) (E : XK), SB (bCx P w K mg base ["rows", "thing", "row"] "led_by" s22 f cdv A outer s H E) c (bW E) 3 false (defBody s22) b_raws_led_by := fun _ _ _ _ _ _ =>
  (b_one (s_ret (e_ty (fun k => call_tupleD k.hK) (a_cons (e_lc (own := [(PySem.Str.ofString "row", 2)]) (i_any (e_v 0)) ⟨fun _ _ _ _ _ => (g_nm sc22.nd), fun _ _ _ _ _ => ts_nil, fun _ _ _ _ _ => (e_call h_dotted (by decide) (a_cons (e_v 2) (a_cons (e_v 1) a_nil)))⟩ (by kernel_rfl)) a_nil) nb.b_tuple (by decide +kernel))))
theorem w22_led_by_ok {f : Addr} {fd : FuncData} (nb : NB mg) (hK : c.K = K) (tkc : TKc c zLaw) (h_dotted : DefOk P w K mg base c "dotted" d_raws_dotted [false, false] false 3) (Fn : Fun K "led_by" "led_by" s22 f fd) (hm : mg "led_by" = some (.ref f)) : DefOk P w K mg base c "led_by" d_raws_led_by [false, false] false 4 :=
  ⟨f, fd, ["rows", "thing"], def_ok Fn sc22 rfl rfl hK (w22_led_by nb tkc h_dotted), hm, Fn.kp, Fn.binds fun _ _ _ _ _ _ us hl => match us, hl with | [_, _], _ => rfl⟩
theorem w23_tie {f : Addr} (nb : NB mg) (tkc : TKc c zLaw) (h_dotted : DefOk P w K mg base c "dotted" d_raws_dotted [false, false] false 3) (h_led_by : DefOk P w K mg base c "led_by" d_raws_led_by [false, false] false 4) (h_table_rows : DefOk P w K mg base c "table_rows" d_raws_table_rows [false] true 3) : ∀ (cdv : Value) (A : Around) (outer : List PySem.Env) (s : Shared) (H : Hp) (E : XK), SB (bCx P w K mg base ["rows", "things", "k", "spot"] "tie" s23 f cdv A outer s H E) c (bW E) 4 false (defBody s23) b_raws_tie := fun _ _ _ _ _ _ =>
  (b_cons (s_setV (i := 3) (e_ix (e_v 1) (e_ix (e_ix (e_v 0) (e_v 2) (fun k => ix_D k.hK)) e_int (fun k => ix_D k.hK)) (fun k => ix_D k.hK)))
  (b_one (s_ret (e_call h_dotted (by decide) (a_cons (e_v 3) (a_cons (e_call h_led_by (by decide) (a_cons (e_nl' (n_call h_table_rows (by decide) (a_cons (e_ix (e_v 1) (e_ix (e_ix (e_v 0) (e_v 2) (fun k => ix_D k.hK)) e_int (fun k => ix_D k.hK)) (fun k => ix_D k.hK)) a_nil))) (a_cons (e_v 3) a_nil))) a_nil))))))
theorem w23_tie_ok {f : Addr} {fd : FuncData} (nb : NB mg) (hK : c.K = K) (tkc : TKc c zLaw) (h_dotted : DefOk P w K mg base c "dotted" d_raws_dotted [false, false] false 3) (h_led_by : DefOk P w K mg base c "led_by" d_raws_led_by [false, false] false 4) (h_table_rows : DefOk P w K mg base c "table_rows" d_raws_table_rows [false] true 3) (Fn : Fun K "tie" "tie" s23 f fd) (hm : mg "tie" = some (.ref f)) : DefOk P w K mg base c "tie" d_raws_tie [false, false, false] false 5 :=
  ⟨f, fd, ["rows", "things", "k"], def_ok Fn sc23 rfl rfl hK (w23_tie nb tkc h_dotted h_led_by h_table_rows), hm, Fn.kp, Fn.binds fun _ _ _ _ _ _ us hl => match us, hl with | [_, _, _], _ => rfl⟩
theorem w24_claim_sums {f : Addr} (nb : NB mg) (tkc : TKc c zLaw) (g_FIRST_OF_TWO : GOk mg c "FIRST_OF_TWO" k_FIRST_OF_TWO) (g_SECOND_OF_TWO : GOk mg c "SECOND_OF_TWO" k_SECOND_OF_TWO) (h_table_rows : DefOk P w K mg base c "table_rows" d_raws_table_rows [false] true 3) (h_dotted : DefOk P w K mg base c "dotted" d_raws_dotted [false, false] false 3) (h_crossed : DefOk P w K mg base c "crossed" d_raws_crossed [false, false] false 4) (h_minus : DefOk P w K mg base c "minus" d_letters_minus [false, false] false 3) (h_sort_of : DefOk P w K mg base c "sort_of" d_drawings_sort_of [false, false] false 1) (h_times : DefOk P w K mg base c "times" d_letters_times [false, false] false 2) (h_led_by : DefOk P w K mg base c "led_by" d_raws_led_by [false, false] false 4) (h_turned_rows : DefOk P w K mg base c "turned_rows" d_raws_turned_rows [false] true 5) : ∀ (cdv : Value) (A : Around) (outer : List PySem.Env) (s : Shared) (H : Hp) (E : XK), SB (bCx P w K mg base ["rows", "things", "claim", "named", "table", "pairs", "number", "one", "other", "i", "j"] "claim_sums" s24 f cdv A outer s H E) c (bW E) 5 true (defBody s24) b_raws_claim_sums := fun _ _ _ _ _ _ =>
  (b_cons (s_setVLc (i := 3) (own := [(PySem.Str.ofString "number", 6)]) (i_any (e_slc (e_v 2) (o_some e_int) o_none)) ⟨fun _ _ _ _ _ => (g_nm sc24.nd), fun _ _ _ _ _ => ts_nil, fun _ _ _ _ _ => (e_ix (e_v 1) (e_v 6) (fun k => ix_D k.hK))⟩ (by kernel_rfl))
  (b_cons (s_if (t_w (w_and (t_cmp (e_ix (e_v 2) e_int (fun k => ix_D k.hK)) e_str (fun k => op_eqD1 k.hK k.hu)) (w_and1 (t_cmp (e_blt (fun k => call_lenD k.hK) (a_cons (e_ix (e_v 3) e_int (fun k => ix_D k.hK)) a_nil) nb.b_len (by decide +kernel)) e_int (fun k => op_eqD1 k.hK k.hu))))) (b_one (s_retN (n_ty (fun k => call_listDN k.hK) (a_cons (e_call h_crossed (by decide) (a_cons (e_ix (e_v 3) e_int (fun k => ix_D k.hK)) (a_cons (e_ix (e_v 3) e_int (fun k => ix_D k.hK)) a_nil))) a_nil) nb.b_list (by decide +kernel)))) b_nil)
  (b_cons (s_if (t_cmp (e_ix (e_v 2) e_int (fun k => ix_D k.hK)) e_str (fun k => op_eqD1 k.hK k.hu)) (b_cons (s_setT (e_v 3) (gs_cons sc24.nd (gs_cons sc24.nd gs_nil)))
  (b_cons (s_setVLc (i := 5) (own := [(PySem.Str.ofString "i", 9), (PySem.Str.ofString "j", 10)]) (i_zip (e_gk g_FIRST_OF_TWO) (e_gk g_SECOND_OF_TWO) nb.b_zip) ⟨fun _ _ _ _ _ => (g_tp (gs_cons sc24.nd (gs_cons sc24.nd gs_nil))), fun _ _ _ _ _ => ts_nil, fun _ _ _ _ _ => (e_tup (a_cons (e_v 9) (a_cons (e_v 10) a_nil)))⟩ (by kernel_rfl))
  (b_one (s_retN (n_lc (own := [(PySem.Str.ofString "i", 9), (PySem.Str.ofString "j", 10)]) (i_any (e_v 5)) ⟨fun _ _ _ _ _ => (g_tp (gs_cons sc24.nd (gs_cons sc24.nd gs_nil))), fun _ _ _ _ _ => ts_nil, fun _ _ _ _ _ => (e_call h_minus (by decide) (a_cons (e_call h_times (by decide) (a_cons (e_ix (e_v 7) (e_v 9) (fun k => ix_D k.hK)) (a_cons (e_ix (e_v 8) (e_v 10) (fun k => ix_D k.hK)) a_nil))) (a_cons (e_call h_times (by decide) (a_cons (e_ix (e_v 7) (e_v 10) (fun k => ix_D k.hK)) (a_cons (e_ix (e_v 8) (e_v 9) (fun k => ix_D k.hK)) a_nil))) a_nil)))⟩ (by kernel_rfl)))))) b_nil)
  (b_cons (s_if (t_w (w_and (t_cmp (e_ix (e_v 2) e_int (fun k => ix_D k.hK)) e_str (fun k => op_eqD1 k.hK k.hu)) (w_and1 (t_cmp (e_call h_sort_of (by decide) (a_cons (e_v 0) (a_cons (e_ix (e_v 2) e_int (fun k => ix_D k.hK)) a_nil))) e_str (fun k => op_eqD1 k.hK k.hu))))) (b_one (s_retN (n_lst (a_cons (e_call h_dotted (by decide) (a_cons (e_ix (e_v 3) e_int (fun k => ix_D k.hK)) (a_cons (e_ix (e_v 3) e_int (fun k => ix_D k.hK)) a_nil))) a_nil)))) b_nil)
  (b_cons (s_if (t_cmp (e_ix (e_v 2) e_int (fun k => ix_D k.hK)) e_str (fun k => op_eqD1 k.hK k.hu)) (b_one (s_retN (n_lst (a_cons (e_call h_dotted (by decide) (a_cons (e_ix (e_v 3) e_int (fun k => ix_D k.hK)) (a_cons (e_call h_led_by (by decide) (a_cons (e_nl' (n_call h_table_rows (by decide) (a_cons (e_ix (e_v 3) e_int (fun k => ix_D k.hK)) a_nil))) (a_cons (e_ix (e_v 3) e_int (fun k => ix_D k.hK)) a_nil))) a_nil))) a_nil)))) b_nil)
  (b_cons (s_if (t_w (w_or (t_cmp (e_ix (e_v 2) e_int (fun k => ix_D k.hK)) e_str (fun k => op_eqD1 k.hK k.hu)) (w_or1 (t_cmp (e_ix (e_v 2) e_int (fun k => ix_D k.hK)) e_str (fun k => op_eqD1 k.hK k.hu))))) (b_one (s_retN (n_lst (a_cons (e_call h_dotted (by decide) (a_cons (e_call h_crossed (by decide) (a_cons (e_ix (e_v 3) e_int (fun k => ix_D k.hK)) (a_cons (e_ix (e_v 3) e_int (fun k => ix_D k.hK)) a_nil))) (a_cons (e_ix (e_v 3) e_int (fun k => ix_D k.hK)) a_nil))) a_nil)))) b_nil)
  (b_cons (s_if (t_cmp (e_ix (e_v 2) e_int (fun k => ix_D k.hK)) e_str (fun k => op_eqD1 k.hK k.hu)) (b_one (s_retN (n_lst (a_cons (e_call h_dotted (by decide) (a_cons (e_ix (e_v 3) e_int (fun k => ix_D k.hK)) (a_cons (e_call h_led_by (by decide) (a_cons (e_nl' (n_call h_turned_rows (by decide) (a_cons (e_nl' (n_call h_table_rows (by decide) (a_cons (e_ix (e_v 3) e_int (fun k => ix_D k.hK)) a_nil))) a_nil))) (a_cons (e_ix (e_v 3) e_int (fun k => ix_D k.hK)) a_nil))) a_nil))) a_nil)))) b_nil)
  (b_cons (s_setV (i := 4) (e_nl' (n_call h_table_rows (by decide) (a_cons (e_ix (e_v 3) e_int (fun k => ix_D k.hK)) a_nil))))
  (b_one (s_retN (n_lst (a_cons (e_call h_dotted (by decide) (a_cons (e_ix (e_v 4) e_int (fun k => ix_D k.hK)) (a_cons (e_call h_crossed (by decide) (a_cons (e_ix (e_v 4) e_int (fun k => ix_D k.hK)) (a_cons (e_ix (e_v 4) e_int (fun k => ix_D k.hK)) a_nil))) a_nil))) a_nil))))))))))))
theorem w24_claim_sums_ok {f : Addr} {fd : FuncData} (nb : NB mg) (hK : c.K = K) (tkc : TKc c zLaw) (g_FIRST_OF_TWO : GOk mg c "FIRST_OF_TWO" k_FIRST_OF_TWO) (g_SECOND_OF_TWO : GOk mg c "SECOND_OF_TWO" k_SECOND_OF_TWO) (h_table_rows : DefOk P w K mg base c "table_rows" d_raws_table_rows [false] true 3) (h_dotted : DefOk P w K mg base c "dotted" d_raws_dotted [false, false] false 3) (h_crossed : DefOk P w K mg base c "crossed" d_raws_crossed [false, false] false 4) (h_minus : DefOk P w K mg base c "minus" d_letters_minus [false, false] false 3) (h_sort_of : DefOk P w K mg base c "sort_of" d_drawings_sort_of [false, false] false 1) (h_times : DefOk P w K mg base c "times" d_letters_times [false, false] false 2) (h_led_by : DefOk P w K mg base c "led_by" d_raws_led_by [false, false] false 4) (h_turned_rows : DefOk P w K mg base c "turned_rows" d_raws_turned_rows [false] true 5) (Fn : Fun K "claim_sums" "claim_sums" s24 f fd) (hm : mg "claim_sums" = some (.ref f)) : DefOk P w K mg base c "claim_sums" d_raws_claim_sums [false, false, false] true 6 :=
  ⟨f, fd, ["rows", "things", "claim"], def_ok Fn sc24 rfl rfl hK (w24_claim_sums nb tkc g_FIRST_OF_TWO g_SECOND_OF_TWO h_table_rows h_dotted h_crossed h_minus h_sort_of h_times h_led_by h_turned_rows), hm, Fn.kp, Fn.binds fun _ _ _ _ _ _ us hl => match us, hl with | [_, _, _], _ => rfl⟩
theorem w28_law_cell {f : Addr} (nb : NB mg) (tkc : TKc c zLaw) : ∀ (cdv : Value) (A : Around) (outer : List PySem.Env) (s : Shared) (H : Hp) (E : XK), SB (bCx P w K mg base ["script", "k"] "_law_cell" s28 f cdv A outer s H E) c (bW E) 0 false (defBody s28) b_law_law_cell := fun _ _ _ _ _ _ =>
  (b_cons (s_if (t_cmp (e_v 1) (e_blt (fun k => call_lenD k.hK) (a_cons (e_v 0) a_nil) nb.b_len (by decide +kernel)) (fun _ => op_ltD)) (b_one (s_ret (e_ix (e_v 0) (e_v 1) (fun k => ix_D k.hK)))) b_nil)
  (b_one (s_ret e_int)))
theorem w28_law_cell_ok {f : Addr} {fd : FuncData} (nb : NB mg) (hK : c.K = K) (tkc : TKc c zLaw) (Fn : Fun K "_law_cell" "_law_cell" s28 f fd) (hm : mg "_law_cell" = some (.ref f)) : DefOk P w K mg base c "_law_cell" d_law_law_cell [false, false] false 1 :=
  ⟨f, fd, ["script", "k"], def_ok Fn sc28 rfl rfl hK (w28_law_cell nb tkc), hm, Fn.kp, Fn.binds fun _ _ _ _ _ _ us hl => match us, hl with | [_, _], _ => rfl⟩
theorem w29_law_bag {f : Addr} (nb : NB mg) (tkc : TKc c zLaw) : ∀ (cdv : Value) (A : Around) (outer : List PySem.Env) (s : Shared) (H : Hp) (E : XK), SB (bCx P w K mg base ["cell"] "_law_bag" s29 f cdv A outer s H E) c (bW E) 0 true (defBody s29) b_law_law_bag := fun _ _ _ _ _ _ =>
  (b_one (s_retN (n_lst (a_cons (e_op (e_blt (fun _ => call_absD) (a_cons (e_v 0) a_nil) nb.b_abs (by decide +kernel)) (e_ty (fun _ => call_intD) (a_cons (e_cmp (e_blt (fun _ => call_absD) (a_cons (e_v 0) a_nil) nb.b_abs (by decide +kernel)) (e_op e_int e_int (fun _ => op_powD)) (fun _ => op_geD)) a_nil) nb.b_int (by decide +kernel)) (fun k => op_mulD k.hK)) (a_cons (e_op (e_blt (fun _ => call_absD) (a_cons (e_v 0) a_nil) nb.b_abs (by decide +kernel)) e_int (fun _ => op_modD)) a_nil)))))
theorem w29_law_bag_ok {f : Addr} {fd : FuncData} (nb : NB mg) (hK : c.K = K) (tkc : TKc c zLaw) (Fn : Fun K "_law_bag" "_law_bag" s29 f fd) (hm : mg "_law_bag" = some (.ref f)) : DefOk P w K mg base c "_law_bag" d_law_law_bag [false] true 1 :=
  ⟨f, fd, ["cell"], def_ok Fn sc29 rfl rfl hK (w29_law_bag nb tkc), hm, Fn.kp, Fn.binds fun _ _ _ _ _ _ us hl => match us, hl with | [_], _ => rfl⟩
theorem w30_law_draw {f : Addr} (nb : NB mg) (tkc : TKc c zLaw) : ∀ (cdv : Value) (A : Around) (outer : List PySem.Env) (s : Shared) (H : Hp) (E : XK), SB (bCx P w K mg base ["bag", "many", "found"] "_law_draw" s30 f cdv A outer s H E) c (bW E) 0 false (defBody s30) b_law_law_draw := fun _ _ _ _ _ _ =>
  (b_cons (s_if (t_cmp (e_ix (e_b 0) e_int (fun k => ix_D k.hK)) e_int (fun _ => op_gtD)) (b_cons (s_setV (i := 2) (e_op (e_ix (e_b 0) e_int (fun k => ix_D k.hK)) (e_v 1) (fun _ => op_modD)))
  (b_cons (s_setix (i := 0) (e_op (e_ix (e_b 0) e_int (fun k => ix_D k.hK)) (e_v 1) (fun _ => op_fdivD)) e_int)
  (b_one (s_ret (e_v 2))))) b_nil)
  (b_cons (s_setix (i := 0) (e_op (e_op (e_op (e_ix (e_b 0) e_int (fun k => ix_D k.hK)) e_int (fun k => op_mulD k.hK)) e_int (fun k => op_addD k.hK)) e_int (fun _ => op_modD)) e_int)
  (b_one (s_ret (e_op (e_op (e_op (e_op (e_ix (e_b 0) e_int (fun k => ix_D k.hK)) (e_op (e_op (e_ix (e_b 0) e_int (fun k => ix_D k.hK)) e_int (fun _ => op_fdivD)) e_int (fun k => op_addD k.hK)) (fun k => op_mulD k.hK)) e_int (fun _ => op_modD)) e_int (fun _ => op_fdivD)) (e_v 1) (fun _ => op_modD))))))
theorem w30_law_draw_ok {f : Addr} {fd : FuncData} (nb : NB mg) (hK : c.K = K) (tkc : TKc c zLaw) (Fn : Fun K "_law_draw" "_law_draw" s30 f fd) (hm : mg "_law_draw" = some (.ref f)) : DefOk P w K mg base c "_law_draw" d_law_law_draw [true, false] false 1 :=
  ⟨f, fd, ["bag", "many"], def_ok Fn sc30 rfl rfl hK (w30_law_draw nb tkc), hm, Fn.kp, Fn.binds fun _ _ _ _ _ _ us hl => match us, hl with | [_, _], _ => rfl⟩
theorem w31_law_asks {f : Addr} (nb : NB mg) (tkc : TKc c zLaw) : ∀ (cdv : Value) (A : Around) (outer : List PySem.Env) (s : Shared) (H : Hp) (E : XK), SB (bCx P w K mg base ["word", "asks"] "_law_asks" s31 f cdv A outer s H E) c (bW E) 0 false (defBody s31) b_law_law_asks := fun _ _ _ _ _ _ =>
  (b_cons (s_setO (i := 1) (n_dct (p_cons (e_lst a_nil) (p_cons (e_lst (a_cons e_str (a_cons e_str a_nil))) (p_cons (e_lst (a_cons e_str (a_cons e_str a_nil))) (p_cons (e_lst (a_cons e_str (a_cons e_str a_nil))) p_nil))))))
  (b_cons (s_dput (i := 1) (e_lst (a_cons e_str (a_cons e_str (a_cons e_str (a_cons e_str (a_cons e_str a_nil)))))) e_str)
  (b_cons (s_dput (i := 1) (e_lst (a_cons e_str (a_cons e_str a_nil))) e_str)
  (b_cons (s_dput (i := 1) (e_lst (a_cons e_str (a_cons e_str (a_cons e_str a_nil)))) e_str)
  (b_one (s_ret (e_dix (e_b 1) (e_v 0))))))))
theorem w31_law_asks_ok {f : Addr} {fd : FuncData} (nb : NB mg) (hK : c.K = K) (tkc : TKc c zLaw) (Fn : Fun K "_law_asks" "_law_asks" s31 f fd) (hm : mg "_law_asks" = some (.ref f)) : DefOk P w K mg base c "_law_asks" d_law_law_asks [false] false 1 :=
  ⟨f, fd, ["word"], def_ok Fn sc31 rfl rfl hK (w31_law_asks nb tkc), hm, Fn.kp, Fn.binds fun _ _ _ _ _ _ us hl => match us, hl with | [_], _ => rfl⟩
theorem w32_law_sort {f : Addr} (nb : NB mg) (tkc : TKc c zLaw) : ∀ (cdv : Value) (A : Around) (outer : List PySem.Env) (s : Shared) (H : Hp) (E : XK), SB (bCx P w K mg base ["row"] "_law_sort" s32 f cdv A outer s H E) c (bW E) 0 false (defBody s32) b_law_law_sort := fun _ _ _ _ _ _ =>
  (b_cons (s_if (t_w (w_or (t_cmp (e_ix (e_v 0) e_int (fun k => ix_D k.hK)) e_str (fun k => op_eqD1 k.hK k.hu)) (w_or1 (t_cmp (e_ix (e_v 0) e_int (fun k => ix_D k.hK)) e_str (fun k => op_eqD1 k.hK k.hu))))) (b_one (s_ret e_str)) b_nil)
  (b_one (s_ret (e_ix (e_lst (a_cons e_str (a_cons e_str a_nil))) (e_ty (fun _ => call_intD) (a_cons (e_cmp (e_ix (e_v 0) e_int (fun k => ix_D k.hK)) e_str (fun k => op_eqD1 k.hK k.hu)) a_nil) nb.b_int (by decide +kernel)) (fun k => ix_D k.hK)))))
theorem w32_law_sort_ok {f : Addr} {fd : FuncData} (nb : NB mg) (hK : c.K = K) (tkc : TKc c zLaw) (Fn : Fun K "_law_sort" "_law_sort" s32 f fd) (hm : mg "_law_sort" = some (.ref f)) : DefOk P w K mg base c "_law_sort" d_law_law_sort [false] false 1 :=
  ⟨f, fd, ["row"], def_ok Fn sc32 rfl rfl hK (w32_law_sort nb tkc), hm, Fn.kp, Fn.binds fun _ _ _ _ _ _ us hl => match us, hl with | [_], _ => rfl⟩
theorem w33_law_pick {f : Addr} (nb : NB mg) (tkc : TKc c zLaw) (h__law_draw : DefOk P w K mg base c "_law_draw" d_law_law_draw [true, false] false 1) (h__law_sort : DefOk P w K mg base c "_law_sort" d_law_law_sort [false] false 1) : ∀ (cdv : Value) (A : Around) (outer : List PySem.Env) (s : Shared) (H : Hp) (E : XK), SB (bCx P w K mg base ["bag", "rows", "sort", "numbers", "k"] "_law_pick" s33 f cdv A outer s H E) c (bW E) 1 false (defBody s33) b_law_law_pick := fun _ _ _ _ _ _ =>
  (b_cons (s_setVLc (i := 3) (own := [(PySem.Str.ofString "k", 4)]) (i_range1 (e_blt (fun k => call_lenD k.hK) (a_cons (e_v 1) a_nil) nb.b_len (by decide +kernel)) nb.b_range) ⟨fun _ _ _ _ _ => (g_nm sc33.nd), fun _ _ _ _ _ => (ts_one (t_cmp (e_call h__law_sort (by decide) (a_cons (e_ix (e_v 1) (e_v 4) (fun k => ix_D k.hK)) a_nil)) (e_v 2) (fun k => op_eqD1 k.hK k.hu))), fun _ _ _ _ _ => (e_v 4)⟩ (by kernel_rfl))
  (b_one (s_ret (e_ix (e_v 3) (e_call h__law_draw (by decide) (a_cons (e_b 0) (a_cons (e_blt (fun k => call_lenD k.hK) (a_cons (e_v 3) a_nil) nb.b_len (by decide +kernel)) a_nil))) (fun k => ix_D k.hK)))))
theorem w33_law_pick_ok {f : Addr} {fd : FuncData} (nb : NB mg) (hK : c.K = K) (tkc : TKc c zLaw) (h__law_draw : DefOk P w K mg base c "_law_draw" d_law_law_draw [true, false] false 1) (h__law_sort : DefOk P w K mg base c "_law_sort" d_law_law_sort [false] false 1) (Fn : Fun K "_law_pick" "_law_pick" s33 f fd) (hm : mg "_law_pick" = some (.ref f)) : DefOk P w K mg base c "_law_pick" d_law_law_pick [true, false, false] false 2 :=
  ⟨f, fd, ["bag", "rows", "sort"], def_ok Fn sc33 rfl rfl hK (w33_law_pick nb tkc h__law_draw h__law_sort), hm, Fn.kp, Fn.binds fun _ _ _ _ _ _ us hl => match us, hl with | [_, _, _], _ => rfl⟩
theorem w34_law_row {f : Addr} (nb : NB mg) (tkc : TKc c zLaw) (h__law_sort : DefOk P w K mg base c "_law_sort" d_law_law_sort [false] false 1) (h__law_draw : DefOk P w K mg base c "_law_draw" d_law_law_draw [true, false] false 1) (h__law_asks : DefOk P w K mg base c "_law_asks" d_law_law_asks [false] false 1) (h__law_pick : DefOk P w K mg base c "_law_pick" d_law_law_pick [true, false, false] false 2) : ∀ (cdv : Value) (A : Around) (outer : List PySem.Env) (s : Shared) (H : Hp) (E : XK), SB (bCx P w K mg base ["bag", "rows", "frees", "sorts", "words", "word", "lacking", "row", "sort"] "_law_row" s34 f cdv A outer s H E) c (bW E) 2 false (defBody s34) b_law_law_row := fun _ _ _ _ _ _ =>
  (b_cons (s_setV (i := 3) (e_lc (own := [(PySem.Str.ofString "row", 7)]) (i_any (e_v 1)) ⟨fun _ _ _ _ _ => (g_nm sc34.nd), fun _ _ _ _ _ => ts_nil, fun _ _ _ _ _ => (e_call h__law_sort (by decide) (a_cons (e_v 7) a_nil))⟩ (by kernel_rfl)))
  (b_cons (s_setV (i := 4) (e_lst (a_cons e_str (a_cons e_str (a_cons e_str (a_cons e_str (a_cons e_str (a_cons e_str (a_cons e_str (a_cons e_str (a_cons e_str (a_cons e_str a_nil))))))))))))
  (b_cons (s_setV (i := 5) (e_ix (e_v 4) (e_call h__law_draw (by decide) (a_cons (e_b 0) (a_cons e_int a_nil))) (fun k => ix_D k.hK)))
  (b_cons (s_setVLc (i := 6) (own := [(PySem.Str.ofString "sort", 8)]) (i_any (e_call h__law_asks (by decide) (a_cons (e_v 5) a_nil))) ⟨fun _ _ _ _ _ => (g_nm sc34.nd), fun _ _ _ _ _ => (ts_one (t_cmp (e_v 8) (e_v 3) (fun k => op_notInD1 k.hK k.hu))), fun _ _ _ _ _ => (e_v 8)⟩ (by kernel_rfl))
  (b_cons (s_if (t_w (w_or (t_cmp (e_blt (fun k => call_lenD k.hK) (a_cons (e_v 1) a_nil) nb.b_len (by decide +kernel)) (e_v 2) (fun _ => op_ltD)) (w_or1 (t_cmp (e_blt (fun k => call_lenD k.hK) (a_cons (e_v 6) a_nil) nb.b_len (by decide +kernel)) e_int (fun _ => op_gtD))))) (b_one (s_setV (i := 5) (e_ix (e_lst (a_cons e_str (a_cons e_str a_nil))) (e_ty (fun _ => call_intD) (a_cons (e_cmp (e_blt (fun k => call_lenD k.hK) (a_cons (e_v 1) a_nil) nb.b_len (by decide +kernel)) (e_v 2) (fun _ => op_ltD)) a_nil) nb.b_int (by decide +kernel)) (fun k => ix_D k.hK)))) b_nil)
  (b_one (s_ret (e_ty (fun k => call_tupleD k.hK) (a_cons (e_op (e_lst (a_cons (e_v 5) a_nil)) (e_lc (own := [(PySem.Str.ofString "sort", 8)]) (i_any (e_call h__law_asks (by decide) (a_cons (e_v 5) a_nil))) ⟨fun _ _ _ _ _ => (g_nm sc34.nd), fun _ _ _ _ _ => ts_nil, fun _ _ _ _ _ => (e_call h__law_pick (by decide) (a_cons (e_b 0) (a_cons (e_v 1) (a_cons (e_v 8) a_nil))))⟩ (by kernel_rfl)) (fun k => op_addD k.hK)) a_nil) nb.b_tuple (by decide +kernel)))))))))
theorem w34_law_row_ok {f : Addr} {fd : FuncData} (nb : NB mg) (hK : c.K = K) (tkc : TKc c zLaw) (h__law_sort : DefOk P w K mg base c "_law_sort" d_law_law_sort [false] false 1) (h__law_draw : DefOk P w K mg base c "_law_draw" d_law_law_draw [true, false] false 1) (h__law_asks : DefOk P w K mg base c "_law_asks" d_law_law_asks [false] false 1) (h__law_pick : DefOk P w K mg base c "_law_pick" d_law_law_pick [true, false, false] false 2) (Fn : Fun K "_law_row" "_law_row" s34 f fd) (hm : mg "_law_row" = some (.ref f)) : DefOk P w K mg base c "_law_row" d_law_law_row [true, false, false] false 3 :=
  ⟨f, fd, ["bag", "rows", "frees"], def_ok Fn sc34 rfl rfl hK (w34_law_row nb tkc h__law_sort h__law_draw h__law_asks h__law_pick), hm, Fn.kp, Fn.binds fun _ _ _ _ _ _ us hl => match us, hl with | [_, _, _], _ => rfl⟩
theorem w35_law_cross {f : Addr} (nb : NB mg) (tkc : TKc c zLaw) : ∀ (cdv : Value) (A : Around) (outer : List PySem.Env) (s : Shared) (H : Hp) (E : XK), SB (bCx P w K mg base ["one", "other", "a", "b", "c", "d", "e", "f"] "_law_cross" s35 f cdv A outer s H E) c (bW E) 0 false (defBody s35) b_law_law_cross := fun _ _ _ _ _ _ =>
  (b_cons (s_setT (e_v 0) (gs_cons sc35.nd (gs_cons sc35.nd (gs_cons sc35.nd gs_nil))))
  (b_cons (s_setT (e_v 1) (gs_cons sc35.nd (gs_cons sc35.nd (gs_cons sc35.nd gs_nil))))
  (b_one (s_ret (e_tup (a_cons (e_op (e_op (e_v 3) (e_v 7) (fun k => op_mulD k.hK)) (e_op (e_v 4) (e_v 6) (fun k => op_mulD k.hK)) (fun _ => op_subD)) (a_cons (e_op (e_op (e_v 4) (e_v 5) (fun k => op_mulD k.hK)) (e_op (e_v 2) (e_v 7) (fun k => op_mulD k.hK)) (fun _ => op_subD)) (a_cons (e_op (e_op (e_v 2) (e_v 6) (fun k => op_mulD k.hK)) (e_op (e_v 3) (e_v 5) (fun k => op_mulD k.hK)) (fun _ => op_subD)) a_nil))))))))
theorem w35_law_cross_ok {f : Addr} {fd : FuncData} (nb : NB mg) (hK : c.K = K) (tkc : TKc c zLaw) (Fn : Fun K "_law_cross" "_law_cross" s35 f fd) (hm : mg "_law_cross" = some (.ref f)) : DefOk P w K mg base c "_law_cross" d_law_law_cross [false, false] false 1 :=
  ⟨f, fd, ["one", "other"], def_ok Fn sc35 rfl rfl hK (w35_law_cross nb tkc), hm, Fn.kp, Fn.binds fun _ _ _ _ _ _ us hl => match us, hl with | [_, _], _ => rfl⟩
theorem w36_law_dot {f : Addr} (nb : NB mg) (tkc : TKc c zLaw) : ∀ (cdv : Value) (A : Around) (outer : List PySem.Env) (s : Shared) (H : Hp) (E : XK), SB (bCx P w K mg base ["one", "other"] "_law_dot" s36 f cdv A outer s H E) c (bW E) 0 false (defBody s36) b_law_law_dot := fun _ _ _ _ _ _ =>
  (b_one (s_ret (e_op (e_op (e_op (e_ix (e_v 0) e_int (fun k => ix_D k.hK)) (e_ix (e_v 1) e_int (fun k => ix_D k.hK)) (fun k => op_mulD k.hK)) (e_op (e_ix (e_v 0) e_int (fun k => ix_D k.hK)) (e_ix (e_v 1) e_int (fun k => ix_D k.hK)) (fun k => op_mulD k.hK)) (fun k => op_addD k.hK)) (e_op (e_ix (e_v 0) e_int (fun k => ix_D k.hK)) (e_ix (e_v 1) e_int (fun k => ix_D k.hK)) (fun k => op_mulD k.hK)) (fun k => op_addD k.hK))))
theorem w36_law_dot_ok {f : Addr} {fd : FuncData} (nb : NB mg) (hK : c.K = K) (tkc : TKc c zLaw) (Fn : Fun K "_law_dot" "_law_dot" s36 f fd) (hm : mg "_law_dot" = some (.ref f)) : DefOk P w K mg base c "_law_dot" d_law_law_dot [false, false] false 1 :=
  ⟨f, fd, ["one", "other"], def_ok Fn sc36 rfl rfl hK (w36_law_dot nb tkc), hm, Fn.kp, Fn.binds fun _ _ _ _ _ _ us hl => match us, hl with | [_, _], _ => rfl⟩
theorem w37_law_turn {f : Addr} (nb : NB mg) (tkc : TKc c zLaw) (h__law_dot : DefOk P w K mg base c "_law_dot" d_law_law_dot [false, false] false 1) (h__law_cross : DefOk P w K mg base c "_law_cross" d_law_law_cross [false, false] false 1) : ∀ (cdv : Value) (A : Around) (outer : List PySem.Env) (s : Shared) (H : Hp) (E : XK), SB (bCx P w K mg base ["one", "other", "third"] "_law_turn" s37 f cdv A outer s H E) c (bW E) 1 false (defBody s37) b_law_law_turn := fun _ _ _ _ _ _ =>
  (b_one (s_ret (e_call h__law_dot (by decide) (a_cons (e_call h__law_cross (by decide) (a_cons (e_v 0) (a_cons (e_v 1) a_nil))) (a_cons (e_v 2) a_nil)))))
theorem w37_law_turn_ok {f : Addr} {fd : FuncData} (nb : NB mg) (hK : c.K = K) (tkc : TKc c zLaw) (h__law_dot : DefOk P w K mg base c "_law_dot" d_law_law_dot [false, false] false 1) (h__law_cross : DefOk P w K mg base c "_law_cross" d_law_law_cross [false, false] false 1) (Fn : Fun K "_law_turn" "_law_turn" s37 f fd) (hm : mg "_law_turn" = some (.ref f)) : DefOk P w K mg base c "_law_turn" d_law_law_turn [false, false, false] false 2 :=
  ⟨f, fd, ["one", "other", "third"], def_ok Fn sc37 rfl rfl hK (w37_law_turn nb tkc h__law_dot h__law_cross), hm, Fn.kp, Fn.binds fun _ _ _ _ _ _ us hl => match us, hl with | [_, _, _], _ => rfl⟩
theorem w38_law_rows_of {f : Addr} (nb : NB mg) (tkc : TKc c zLaw) : ∀ (cdv : Value) (A : Around) (outer : List PySem.Env) (s : Shared) (H : Hp) (E : XK), SB (bCx P w K mg base ["curve", "a", "b", "c", "d", "e", "f"] "_law_rows_of" s38 f cdv A outer s H E) c (bW E) 0 true (defBody s38) b_law_law_rows_of := fun _ _ _ _ _ _ =>
  (b_cons (s_setT (e_v 0) (gs_cons sc38.nd (gs_cons sc38.nd (gs_cons sc38.nd (gs_cons sc38.nd (gs_cons sc38.nd (gs_cons sc38.nd gs_nil)))))))
  (b_one (s_retN (n_lst (a_cons (e_tup (a_cons (e_op e_int (e_v 1) (fun k => op_mulD k.hK)) (a_cons (e_v 2) (a_cons (e_v 4) a_nil)))) (a_cons (e_tup (a_cons (e_v 2) (a_cons (e_op e_int (e_v 3) (fun k => op_mulD k.hK)) (a_cons (e_v 5) a_nil)))) (a_cons (e_tup (a_cons (e_v 4) (a_cons (e_v 5) (a_cons (e_op e_int (e_v 6) (fun k => op_mulD k.hK)) a_nil)))) a_nil)))))))
theorem w38_law_rows_of_ok {f : Addr} {fd : FuncData} (nb : NB mg) (hK : c.K = K) (tkc : TKc c zLaw) (Fn : Fun K "_law_rows_of" "_law_rows_of" s38 f fd) (hm : mg "_law_rows_of" = some (.ref f)) : DefOk P w K mg base c "_law_rows_of" d_law_law_rows_of [false] true 1 :=
  ⟨f, fd, ["curve"], def_ok Fn sc38 rfl rfl hK (w38_law_rows_of nb tkc), hm, Fn.kp, Fn.binds fun _ _ _ _ _ _ us hl => match us, hl with | [_], _ => rfl⟩
theorem w39_law_times {f : Addr} (nb : NB mg) (tkc : TKc c zLaw) (h__law_dot : DefOk P w K mg base c "_law_dot" d_law_law_dot [false, false] false 1) (h__law_rows_of : DefOk P w K mg base c "_law_rows_of" d_law_law_rows_of [false] true 1) : ∀ (cdv : Value) (A : Around) (outer : List PySem.Env) (s : Shared) (H : Hp) (E : XK), SB (bCx P w K mg base ["curve", "row", "one"] "_law_times" s39 f cdv A outer s H E) c (bW E) 1 false (defBody s39) b_law_law_times := fun _ _ _ _ _ _ =>
  (b_one (s_ret (e_ty (fun k => call_tupleD k.hK) (a_cons (e_lc (own := [(PySem.Str.ofString "one", 2)]) (i_any (e_nl' (n_call h__law_rows_of (by decide) (a_cons (e_v 0) a_nil)))) ⟨fun _ _ _ _ _ => (g_nm sc39.nd), fun _ _ _ _ _ => ts_nil, fun _ _ _ _ _ => (e_call h__law_dot (by decide) (a_cons (e_v 2) (a_cons (e_v 1) a_nil)))⟩ (by kernel_rfl)) a_nil) nb.b_tuple (by decide +kernel))))
theorem w39_law_times_ok {f : Addr} {fd : FuncData} (nb : NB mg) (hK : c.K = K) (tkc : TKc c zLaw) (h__law_dot : DefOk P w K mg base c "_law_dot" d_law_law_dot [false, false] false 1) (h__law_rows_of : DefOk P w K mg base c "_law_rows_of" d_law_law_rows_of [false] true 1) (Fn : Fun K "_law_times" "_law_times" s39 f fd) (hm : mg "_law_times" = some (.ref f)) : DefOk P w K mg base c "_law_times" d_law_law_times [false, false] false 2 :=
  ⟨f, fd, ["curve", "row"], def_ok Fn sc39 rfl rfl hK (w39_law_times nb tkc h__law_dot h__law_rows_of), hm, Fn.kp, Fn.binds fun _ _ _ _ _ _ us hl => match us, hl with | [_, _], _ => rfl⟩
theorem w40_law_at {f : Addr} (nb : NB mg) (tkc : TKc c zLaw) : ∀ (cdv : Value) (A : Around) (outer : List PySem.Env) (s : Shared) (H : Hp) (E : XK), SB (bCx P w K mg base ["one", "numbers", "found", "powers", "number", "power", "letter", "lap"] "_law_at" s40 f cdv A outer s H E) c (bW E) 0 false (defBody s40) b_law_law_at := fun _ _ _ _ _ _ =>
  (b_cons (s_setV (i := 2) e_int)
  (b_cons (s_for (i_any (e_v 0)) (g_tp (gs_cons sc40.nd (gs_cons sc40.nd gs_nil))) (b_cons (s_for (i_zip (e_v 3) (e_v 1) nb.b_zip) (g_tp (gs_cons sc40.nd (gs_cons sc40.nd gs_nil))) (b_one (s_for (i_range1 (e_v 5) nb.b_range) (g_nm sc40.nd) (b_one (s_setV (i := 4) (e_op (e_v 4) (e_v 6) (fun k => op_mulD k.hK)))))))
  (b_one (s_setV (i := 2) (e_op (e_v 2) (e_v 4) (fun k => op_addD k.hK))))))
  (b_one (s_ret (e_v 2)))))
theorem w40_law_at_ok {f : Addr} {fd : FuncData} (nb : NB mg) (hK : c.K = K) (tkc : TKc c zLaw) (Fn : Fun K "_law_at" "_law_at" s40 f fd) (hm : mg "_law_at" = some (.ref f)) : DefOk P w K mg base c "_law_at" d_law_law_at [false, false] false 1 :=
  ⟨f, fd, ["one", "numbers"], def_ok Fn sc40 rfl rfl hK (w40_law_at nb tkc), hm, Fn.kp, Fn.binds fun _ _ _ _ _ _ us hl => match us, hl with | [_, _], _ => rfl⟩
theorem w41_law_sum_good {f : Addr} (nb : NB mg) (tkc : TKc c zLaw) : ∀ (cdv : Value) (A : Around) (outer : List PySem.Env) (s : Shared) (H : Hp) (E : XK), SB (bCx P w K mg base ["thing", "letters", "ahead", "term", "number"] "_law_sum_good" s41 f cdv A outer s H E) c (bW E) 0 false (defBody s41) b_law_law_sum_good := fun _ _ _ _ _ _ =>
  (b_cons (s_if (t_not (t_val (e_isi (e_v 0) nb.b_isinstance nb.b_tuple (by decide +kernel) kit_tuple))) (b_one (s_ret e_bl)) b_nil)
  (b_cons (s_setV (i := 2) e_non)
  (b_cons (s_for (i_any (e_v 0)) (g_nm sc41.nd) (b_cons (s_if (t_w (w_or (t_not (t_val (e_isi (e_v 3) nb.b_isinstance nb.b_tuple (by decide +kernel) kit_tuple))) (w_or (t_cmp (e_blt (fun k => call_lenD k.hK) (a_cons (e_v 3) a_nil) nb.b_len (by decide +kernel)) e_int (fun k => op_neD1 k.hK k.hu)) (w_or (t_not (t_val (e_isi (e_ix (e_v 3) e_int (fun k => ix_D k.hK)) nb.b_isinstance nb.b_tuple (by decide +kernel) kit_tuple))) (w_or1 (t_cmp (e_blt (fun k => call_lenD k.hK) (a_cons (e_ix (e_v 3) e_int (fun k => ix_D k.hK)) a_nil) nb.b_len (by decide +kernel)) (e_v 1) (fun k => op_neD1 k.hK k.hu))))))) (b_one (s_ret e_bl)) b_nil)
  (b_cons (s_for (i_any (e_op (e_ty (fun k => call_listDK k.hK) (a_cons (e_ix (e_v 3) e_int (fun k => ix_D k.hK)) a_nil) nb.b_list (by decide +kernel)) (e_lst (a_cons (e_ix (e_v 3) e_int (fun k => ix_D k.hK)) a_nil)) (fun k => op_addD k.hK))) (g_nm sc41.nd) (b_one (s_if (t_w (w_or (t_not (t_val (e_isi (e_v 4) nb.b_isinstance nb.b_int (by decide +kernel) kit_int))) (w_or1 (t_val (e_isi (e_v 4) nb.b_isinstance nb.b_bool (by decide +kernel) kit_bool))))) (b_one (s_ret e_bl)) b_nil)))
  (b_cons (s_if (t_w (w_or (t_cmp (e_blt (fun k => call_minLD k.calm k.hK) (a_cons (e_op (e_lst (a_cons e_int a_nil)) (e_ty (fun k => call_listDK k.hK) (a_cons (e_ix (e_v 3) e_int (fun k => ix_D k.hK)) a_nil) nb.b_list (by decide +kernel)) (fun k => op_addD k.hK)) a_nil) nb.b_min (by decide +kernel)) e_int (fun _ => op_ltD)) (w_or (t_cmp (e_ix (e_v 3) e_int (fun k => ix_D k.hK)) e_int (fun k => op_eqD1 k.hK k.hu)) (w_or1 (t_w (w_and (t_cmp (e_v 2) e_non (fun _ => op_notNoneD)) (w_and1 (t_not (t_cmp (e_v 2) (e_ix (e_v 3) e_int (fun k => ix_D k.hK)) (fun k => op_ltTD k.hK k.hu)))))))))) (b_one (s_ret e_bl)) b_nil)
  (b_one (s_setV (i := 2) (e_ix (e_v 3) e_int (fun k => ix_D k.hK))))))))
  (b_one (s_ret e_bl)))))
theorem w41_law_sum_good_ok {f : Addr} {fd : FuncData} (nb : NB mg) (hK : c.K = K) (tkc : TKc c zLaw) (Fn : Fun K "_law_sum_good" "_law_sum_good" s41 f fd) (hm : mg "_law_sum_good" = some (.ref f)) : DefOk P w K mg base c "_law_sum_good" d_law_law_sum_good [false, false] false 1 :=
  ⟨f, fd, ["thing", "letters"], def_ok Fn sc41 rfl rfl hK (w41_law_sum_good nb tkc), hm, Fn.kp, Fn.binds fun _ _ _ _ _ _ us hl => match us, hl with | [_, _], _ => rfl⟩
theorem w42_law_part {f : Addr} (nb : NB mg) (tkc : TKc c zLaw) (h__law_draw : DefOk P w K mg base c "_law_draw" d_law_law_draw [true, false] false 1) : ∀ (cdv : Value) (A : Around) (outer : List PySem.Env) (s : Shared) (H : Hp) (E : XK), SB (bCx P w K mg base ["bag", "letters", "top", "way", "number", "letter", "powers", "both", "k"] "_law_part" s42 f cdv A outer s H E) c (bW E) 1 true (defBody s42) b_law_law_part := fun _ _ _ _ _ _ =>
  (b_cons (s_setV (i := 3) (e_call h__law_draw (by decide) (a_cons (e_b 0) (a_cons e_int a_nil))))
  (b_cons (s_setV (i := 4) (e_op (e_call h__law_draw (by decide) (a_cons (e_b 0) (a_cons (e_op (e_op e_int (e_v 2) (fun k => op_mulD k.hK)) e_int (fun k => op_addD k.hK)) a_nil))) (e_v 2) (fun _ => op_subD)))
  (b_cons (s_if (t_w (w_or (t_cmp (e_v 3) e_int (fun k => op_eqD1 k.hK k.hu)) (w_or1 (t_cmp (e_v 1) e_int (fun k => op_eqD1 k.hK k.hu))))) (b_one (s_retN (n_lst (a_cons (e_tup (a_cons (e_op (e_tup (a_cons e_int a_nil)) (e_v 1) (fun k => op_mulD k.hK)) (a_cons (e_v 4) a_nil))) a_nil)))) b_nil)
  (b_cons (s_setV (i := 5) (e_call h__law_draw (by decide) (a_cons (e_b 0) (a_cons (e_v 1) a_nil))))
  (b_cons (s_setV (i := 6) (e_ty (fun k => call_tupleD k.hK) (a_cons (e_lc (own := [(PySem.Str.ofString "k", 8)]) (i_range1 (e_v 1) nb.b_range) ⟨fun _ _ _ _ _ => (g_nm sc42.nd), fun _ _ _ _ _ => ts_nil, fun _ _ _ _ _ => (e_ty (fun _ => call_intD) (a_cons (e_cmp (e_v 8) (e_v 5) (fun k => op_eqD1 k.hK k.hu)) a_nil) nb.b_int (by decide +kernel))⟩ (by kernel_rfl)) a_nil) nb.b_tuple (by decide +kernel)))
  (b_cons (s_if (t_w (w_or (t_cmp (e_v 1) e_int (fun _ => op_gtD)) (w_or1 (t_cmp (e_v 3) e_int (fun k => op_eqD1 k.hK k.hu))))) (b_one (s_retN (n_lst (a_cons (e_tup (a_cons (e_v 6) (a_cons (e_v 4) a_nil))) a_nil)))) b_nil)
  (b_cons (s_setV (i := 7) (e_op (e_tup (a_cons e_int a_nil)) (e_v 1) (fun k => op_mulD k.hK)))
  (b_cons (s_if (t_cmp (e_v 3) e_int (fun k => op_eqD1 k.hK k.hu)) (b_one (s_retN (n_lst (a_cons (e_tup (a_cons (e_op (e_tup (a_cons e_int a_nil)) (e_v 1) (fun k => op_mulD k.hK)) (a_cons (e_v 4) a_nil))) (a_cons (e_tup (a_cons (e_v 6) (a_cons (e_op (e_call h__law_draw (by decide) (a_cons (e_b 0) (a_cons e_int a_nil))) e_int (fun _ => op_subD)) a_nil))) a_nil))))) b_nil)
  (b_one (s_retN (n_lst (a_cons (e_tup (a_cons (e_op (e_tup (a_cons e_int a_nil)) (e_v 1) (fun k => op_mulD k.hK)) (a_cons (e_op (e_call h__law_draw (by decide) (a_cons (e_b 0) (a_cons e_int a_nil))) e_int (fun _ => op_subD)) a_nil))) (a_cons (e_tup (a_cons (e_v 6) (a_cons (e_v 4) a_nil))) (a_cons (e_tup (a_cons (e_v 7) (a_cons (e_op (e_call h__law_draw (by decide) (a_cons (e_b 0) (a_cons e_int a_nil))) e_int (fun _ => op_subD)) a_nil))) a_nil))))))))))))))
theorem w42_law_part_ok {f : Addr} {fd : FuncData} (nb : NB mg) (hK : c.K = K) (tkc : TKc c zLaw) (h__law_draw : DefOk P w K mg base c "_law_draw" d_law_law_draw [true, false] false 1) (Fn : Fun K "_law_part" "_law_part" s42 f fd) (hm : mg "_law_part" = some (.ref f)) : DefOk P w K mg base c "_law_part" d_law_law_part [true, false, false] true 2 :=
  ⟨f, fd, ["bag", "letters", "top"], def_ok Fn sc42 rfl rfl hK (w42_law_part nb tkc h__law_draw), hm, Fn.kp, Fn.binds fun _ _ _ _ _ _ us hl => match us, hl with | [_, _, _], _ => rfl⟩
theorem w43_law_thing {f : Addr} (nb : NB mg) (tkc : TKc c zLaw) (h__law_part : DefOk P w K mg base c "_law_part" d_law_law_part [true, false, false] true 2) : ∀ (cdv : Value) (A : Around) (outer : List PySem.Env) (s : Shared) (H : Hp) (E : XK), SB (bCx P w K mg base ["bag", "letters", "sort", "top", "said", "k", "term"] "_law_thing" s43 f cdv A outer s H E) c (bW E) 2 false (defBody s43) b_law_law_thing := fun _ _ _ _ _ _ =>
  (b_cons (s_setO (i := 4) (n_lst a_nil))
  (b_cons (s_for (i_range1 (e_op e_int (e_op e_int (e_ty (fun _ => call_intD) (a_cons (e_cmp (e_v 2) e_str (fun k => op_eqD1 k.hK k.hu)) a_nil) nb.b_int (by decide +kernel)) (fun k => op_mulD k.hK)) (fun k => op_addD k.hK)) nb.b_range) (g_nm sc43.nd) (b_one (s_app (i := 4) (e_tupF (a_cons (e_blt (fun k => call_sortTD k.hK k.hu) (a_cons (e_lc (own := [(PySem.Str.ofString "term", 6)]) (i_any (e_nl' (n_call h__law_part (by decide) (a_cons (e_b 0) (a_cons (e_v 1) (a_cons (e_v 3) a_nil)))))) ⟨fun _ _ _ _ _ => (g_nm sc43.nd), fun _ _ _ _ _ => (ts_one (t_cmp (e_ix (e_v 6) e_int (fun k => ix_D k.hK)) e_int (fun k => op_neD1 k.hK k.hu))), fun _ _ _ _ _ => (e_v 6)⟩ (by kernel_rfl)) a_nil) nb.b_sorted (by decide +kernel)) a_nil) nb.b_tuple (by decide +kernel)))))
  (b_one (s_ret (e_ty (fun k => call_tupleD k.hK) (a_cons (e_bv 4) a_nil) nb.b_tuple (by decide +kernel))))))
theorem w43_law_thing_ok {f : Addr} {fd : FuncData} (nb : NB mg) (hK : c.K = K) (tkc : TKc c zLaw) (h__law_part : DefOk P w K mg base c "_law_part" d_law_law_part [true, false, false] true 2) (Fn : Fun K "_law_thing" "_law_thing" s43 f fd) (hm : mg "_law_thing" = some (.ref f)) : DefOk P w K mg base c "_law_thing" d_law_law_thing [true, false, false, false] false 3 :=
  ⟨f, fd, ["bag", "letters", "sort", "top"], def_ok Fn sc43 rfl rfl hK (w43_law_thing nb tkc h__law_part), hm, Fn.kp, Fn.binds fun _ _ _ _ _ _ us hl => match us, hl with | [_, _, _, _], _ => rfl⟩
theorem w44_law_claim {f : Addr} (nb : NB mg) (tkc : TKc c zLaw) (h__law_sort : DefOk P w K mg base c "_law_sort" d_law_law_sort [false] false 1) (h__law_draw : DefOk P w K mg base c "_law_draw" d_law_law_draw [true, false] false 1) (h__law_pick : DefOk P w K mg base c "_law_pick" d_law_law_pick [true, false, false] false 2) : ∀ (cdv : Value) (A : Around) (outer : List PySem.Env) (s : Shared) (H : Hp) (E : XK), SB (bCx P w K mg base ["bag", "rows", "sorts", "word", "first", "asks", "row", "sort"] "_law_claim" s44 f cdv A outer s H E) c (bW E) 2 false (defBody s44) b_law_law_claim := fun _ _ _ _ _ _ =>
  (b_cons (s_setV (i := 2) (e_lc (own := [(PySem.Str.ofString "row", 6)]) (i_any (e_v 1)) ⟨fun _ _ _ _ _ => (g_nm sc44.nd), fun _ _ _ _ _ => ts_nil, fun _ _ _ _ _ => (e_call h__law_sort (by decide) (a_cons (e_v 6) a_nil))⟩ (by kernel_rfl)))
  (b_cons (s_setV (i := 3) (e_ix (e_lst (a_cons e_str (a_cons e_str (a_cons e_str (a_cons e_str (a_cons e_str (a_cons e_str (a_cons e_str (a_cons e_str a_nil))))))))) (e_call h__law_draw (by decide) (a_cons (e_b 0) (a_cons e_int a_nil))) (fun k => ix_D k.hK)))
  (b_cons (s_setV (i := 4) (e_ix (e_v 2) (e_call h__law_draw (by decide) (a_cons (e_b 0) (a_cons (e_blt (fun k => call_lenD k.hK) (a_cons (e_v 2) a_nil) nb.b_len (by decide +kernel)) a_nil))) (fun k => ix_D k.hK)))
  (b_cons (s_setO (i := 5) (n_dct (p_cons (e_lst (a_cons (e_v 4) (a_cons (e_v 4) a_nil))) (p_cons (e_lst (a_cons e_str (a_cons e_str (a_cons e_str a_nil)))) (p_cons (e_lst (a_cons e_str (a_cons e_str (a_cons e_str a_nil)))) p_nil)))))
  (b_cons (s_dput (i := 5) (e_lst (a_cons e_str (a_cons (e_ix (e_lst (a_cons e_str (a_cons e_str a_nil))) (e_call h__law_draw (by decide) (a_cons (e_b 0) (a_cons e_int a_nil))) (fun k => ix_D k.hK)) a_nil))) e_str)
  (b_cons (s_dput (i := 5) (e_lst (a_cons e_str (a_cons e_str a_nil))) e_str)
  (b_cons (s_dput (i := 5) (e_lst (a_cons e_str a_nil)) e_str)
  (b_cons (s_if (t_cmp (e_blt (fun k => call_lenD k.hK) (a_cons (e_lc (own := [(PySem.Str.ofString "sort", 7)]) (i_any (e_dix (e_b 5) (e_v 3))) ⟨fun _ _ _ _ _ => (g_nm sc44.nd), fun _ _ _ _ _ => (ts_one (t_cmp (e_v 7) (e_v 2) (fun k => op_notInD1 k.hK k.hu))), fun _ _ _ _ _ => (e_v 7)⟩ (by kernel_rfl)) a_nil) nb.b_len (by decide +kernel)) e_int (fun _ => op_gtD)) (b_one (s_setV (i := 3) e_str)) b_nil)
  (b_one (s_ret (e_ty (fun k => call_tupleD k.hK) (a_cons (e_op (e_lst (a_cons (e_v 3) a_nil)) (e_lc (own := [(PySem.Str.ofString "sort", 7)]) (i_any (e_dix (e_b 5) (e_v 3))) ⟨fun _ _ _ _ _ => (g_nm sc44.nd), fun _ _ _ _ _ => ts_nil, fun _ _ _ _ _ => (e_call h__law_pick (by decide) (a_cons (e_b 0) (a_cons (e_v 1) (a_cons (e_v 7) a_nil))))⟩ (by kernel_rfl)) (fun k => op_addD k.hK)) a_nil) nb.b_tuple (by decide +kernel))))))))))))
theorem w44_law_claim_ok {f : Addr} {fd : FuncData} (nb : NB mg) (hK : c.K = K) (tkc : TKc c zLaw) (h__law_sort : DefOk P w K mg base c "_law_sort" d_law_law_sort [false] false 1) (h__law_draw : DefOk P w K mg base c "_law_draw" d_law_law_draw [true, false] false 1) (h__law_pick : DefOk P w K mg base c "_law_pick" d_law_law_pick [true, false, false] false 2) (Fn : Fun K "_law_claim" "_law_claim" s44 f fd) (hm : mg "_law_claim" = some (.ref f)) : DefOk P w K mg base c "_law_claim" d_law_law_claim [true, false] false 3 :=
  ⟨f, fd, ["bag", "rows"], def_ok Fn sc44 rfl rfl hK (w44_law_claim nb tkc h__law_sort h__law_draw h__law_pick), hm, Fn.kp, Fn.binds fun _ _ _ _ _ _ us hl => match us, hl with | [_, _], _ => rfl⟩
theorem w45_law_numbers {f : Addr} (nb : NB mg) (tkc : TKc c zLaw) (h__law_rows_of : DefOk P w K mg base c "_law_rows_of" d_law_law_rows_of [false] true 1) (h__law_cross : DefOk P w K mg base c "_law_cross" d_law_law_cross [false, false] false 1) (h__law_dot : DefOk P w K mg base c "_law_dot" d_law_law_dot [false, false] false 1) (h__law_turn : DefOk P w K mg base c "_law_turn" d_law_law_turn [false, false, false] false 2) (h__law_times : DefOk P w K mg base c "_law_times" d_law_law_times [false, false] false 2) : ∀ (cdv : Value) (A : Around) (outer : List PySem.Env) (s : Shared) (H : Hp) (E : XK), SB (bCx P w K mg base ["rows", "some", "claim", "table", "swung", "found", "i", "one", "other", "j", "row"] "_law_numbers" s45 f cdv A outer s H E) c (bW E) 2 false (defBody s45) b_law_law_numbers := fun _ _ _ _ _ _ =>
  (b_cons (s_if (t_cmp (e_ix (e_v 2) e_int (fun k => ix_D k.hK)) e_str (fun k => op_eqD1 k.hK k.hu)) (b_cons (s_setT (e_v 1) (gs_cons sc45.nd (gs_cons sc45.nd gs_nil)))
  (b_cons (s_setO (i := 5) (n_lst a_nil))
  (b_cons (s_for (i_range1 (e_blt (fun k => call_lenD k.hK) (a_cons (e_v 7) a_nil) nb.b_len (by decide +kernel)) nb.b_range) (g_nm sc45.nd) (b_one (s_for (i_range1 (e_v 6) nb.b_range) (g_nm sc45.nd) (b_one (s_app (i := 5) (e_blt (fun _ => call_absD) (a_cons (e_op (e_op (e_ix (e_v 7) (e_v 6) (fun k => ix_D k.hK)) (e_ix (e_v 8) (e_v 9) (fun k => ix_D k.hK)) (fun k => op_mulD k.hK)) (e_op (e_ix (e_v 7) (e_v 9) (fun k => ix_D k.hK)) (e_ix (e_v 8) (e_v 6) (fun k => ix_D k.hK)) (fun k => op_mulD k.hK)) (fun _ => op_subD)) a_nil) nb.b_abs (by decide +kernel)))))))
  (b_one (s_ret (e_blt (fun k => call_sortZD k.hK) (a_cons (e_bv 5) a_nil) nb.b_sorted (by decide +kernel))))))) b_nil)
  (b_cons (s_if (t_w (w_and (t_cmp (e_ix (e_v 2) e_int (fun k => ix_D k.hK)) e_str (fun k => op_eqD1 k.hK k.hu)) (w_and1 (t_cmp (e_blt (fun k => call_lenD k.hK) (a_cons (e_ix (e_v 1) e_int (fun k => ix_D k.hK)) a_nil) nb.b_len (by decide +kernel)) e_int (fun k => op_eqD1 k.hK k.hu))))) (b_one (s_ret (e_lst (a_cons (e_blt (fun _ => call_absD) (a_cons (e_call h__law_dot (by decide) (a_cons (e_ix (e_v 1) e_int (fun k => ix_D k.hK)) (a_cons (e_ix (e_v 1) e_int (fun k => ix_D k.hK)) a_nil))) a_nil) nb.b_abs (by decide +kernel)) a_nil)))) b_nil)
  (b_cons (s_if (t_cmp (e_ix (e_v 2) e_int (fun k => ix_D k.hK)) e_str (fun k => op_eqD1 k.hK k.hu)) (b_one (s_ret (e_lst (a_cons (e_blt (fun _ => call_absD) (a_cons (e_call h__law_dot (by decide) (a_cons (e_ix (e_v 1) e_int (fun k => ix_D k.hK)) (a_cons (e_call h__law_times (by decide) (a_cons (e_ix (e_v 1) e_int (fun k => ix_D k.hK)) (a_cons (e_ix (e_v 1) e_int (fun k => ix_D k.hK)) a_nil))) a_nil))) a_nil) nb.b_abs (by decide +kernel)) a_nil)))) b_nil)
  (b_cons (s_if (t_w (w_or (t_cmp (e_ix (e_v 2) e_int (fun k => ix_D k.hK)) e_str (fun k => op_eqD1 k.hK k.hu)) (w_or1 (t_cmp (e_ix (e_v 2) e_int (fun k => ix_D k.hK)) e_str (fun k => op_eqD1 k.hK k.hu))))) (b_one (s_ret (e_lst (a_cons (e_blt (fun _ => call_absD) (a_cons (e_call h__law_turn (by decide) (a_cons (e_ix (e_v 1) e_int (fun k => ix_D k.hK)) (a_cons (e_ix (e_v 1) e_int (fun k => ix_D k.hK)) (a_cons (e_ix (e_v 1) e_int (fun k => ix_D k.hK)) a_nil)))) a_nil) nb.b_abs (by decide +kernel)) a_nil)))) b_nil)
  (b_cons (s_setV (i := 3) (e_nl' (n_call h__law_rows_of (by decide) (a_cons (e_ix (e_v 1) (e_un e_int (fun _ => un_negD)) (fun k => ix_D k.hK)) a_nil))))
  (b_cons (s_if (t_cmp (e_ix (e_v 2) e_int (fun k => ix_D k.hK)) e_str (fun k => op_eqD1 k.hK k.hu)) (b_one (s_ret (e_lst (a_cons (e_blt (fun _ => call_absD) (a_cons (e_call h__law_turn (by decide) (a_cons (e_ix (e_v 3) e_int (fun k => ix_D k.hK)) (a_cons (e_ix (e_v 3) e_int (fun k => ix_D k.hK)) (a_cons (e_ix (e_v 3) e_int (fun k => ix_D k.hK)) a_nil)))) a_nil) nb.b_abs (by decide +kernel)) a_nil)))) b_nil)
  (b_cons (s_setV (i := 4) (e_lst (a_cons (e_call h__law_cross (by decide) (a_cons (e_ix (e_v 3) e_int (fun k => ix_D k.hK)) (a_cons (e_ix (e_v 3) e_int (fun k => ix_D k.hK)) a_nil))) (a_cons (e_call h__law_cross (by decide) (a_cons (e_ix (e_v 3) e_int (fun k => ix_D k.hK)) (a_cons (e_ix (e_v 3) e_int (fun k => ix_D k.hK)) a_nil))) (a_cons (e_call h__law_cross (by decide) (a_cons (e_ix (e_v 3) e_int (fun k => ix_D k.hK)) (a_cons (e_ix (e_v 3) e_int (fun k => ix_D k.hK)) a_nil))) a_nil)))))
  (b_one (s_ret (e_lst (a_cons (e_blt (fun _ => call_absD) (a_cons (e_call h__law_dot (by decide) (a_cons (e_ix (e_v 1) e_int (fun k => ix_D k.hK)) (a_cons (e_ty (fun k => call_tupleD k.hK) (a_cons (e_lc (own := [(PySem.Str.ofString "row", 10)]) (i_any (e_v 4)) ⟨fun _ _ _ _ _ => (g_nm sc45.nd), fun _ _ _ _ _ => ts_nil, fun _ _ _ _ _ => (e_call h__law_dot (by decide) (a_cons (e_v 10) (a_cons (e_ix (e_v 1) e_int (fun k => ix_D k.hK)) a_nil)))⟩ (by kernel_rfl)) a_nil) nb.b_tuple (by decide +kernel)) a_nil))) a_nil) nb.b_abs (by decide +kernel)) a_nil)))))))))))
theorem w45_law_numbers_ok {f : Addr} {fd : FuncData} (nb : NB mg) (hK : c.K = K) (tkc : TKc c zLaw) (h__law_rows_of : DefOk P w K mg base c "_law_rows_of" d_law_law_rows_of [false] true 1) (h__law_cross : DefOk P w K mg base c "_law_cross" d_law_law_cross [false, false] false 1) (h__law_dot : DefOk P w K mg base c "_law_dot" d_law_law_dot [false, false] false 1) (h__law_turn : DefOk P w K mg base c "_law_turn" d_law_law_turn [false, false, false] false 2) (h__law_times : DefOk P w K mg base c "_law_times" d_law_law_times [false, false] false 2) (Fn : Fun K "_law_numbers" "_law_numbers" s45 f fd) (hm : mg "_law_numbers" = some (.ref f)) : DefOk P w K mg base c "_law_numbers" d_law_law_numbers [false, false, false] false 3 :=
  ⟨f, fd, ["rows", "some", "claim"], def_ok Fn sc45 rfl rfl hK (w45_law_numbers nb tkc h__law_rows_of h__law_cross h__law_dot h__law_turn h__law_times), hm, Fn.kp, Fn.binds fun _ _ _ _ _ _ us hl => match us, hl with | [_, _, _], _ => rfl⟩
theorem w46_law_things {f : Addr} (nb : NB mg) (tkc : TKc c zLaw) (h__law_bag : DefOk P w K mg base c "_law_bag" d_law_law_bag [false] true 1) (h__law_cell : DefOk P w K mg base c "_law_cell" d_law_law_cell [false, false] false 1) (h__law_draw : DefOk P w K mg base c "_law_draw" d_law_law_draw [true, false] false 1) (h__law_thing : DefOk P w K mg base c "_law_thing" d_law_law_thing [true, false, false, false] false 3) (h__law_sort : DefOk P w K mg base c "_law_sort" d_law_law_sort [false] false 1) : ∀ (cdv : Value) (A : Around) (outer : List PySem.Env) (s : Shared) (H : Hp) (E : XK), SB (bCx P w K mg base ["script", "rows", "letters", "things", "k", "bag", "ahead", "thing"] "_law_things" s46 f cdv A outer s H E) c (bW E) 3 true (defBody s46) b_law_law_things := fun _ _ _ _ _ _ =>
  (b_cons (s_setO (i := 3) (n_lst a_nil))
  (b_cons (s_for (i_range1 (e_blt (fun k => call_lenD k.hK) (a_cons (e_v 1) a_nil) nb.b_len (by decide +kernel)) nb.b_range) (g_nm sc46.nd) (b_cons (s_setO (i := 5) (n_call h__law_bag (by decide) (a_cons (e_op (e_call h__law_cell (by decide) (a_cons (e_v 0) (a_cons (e_op e_int (e_v 4) (fun k => op_addD k.hK)) a_nil))) (e_op e_int e_int (fun _ => op_powD)) (fun _ => op_fdivD)) a_nil)))
  (b_cons (s_setVLcB (i := 6) 3 ⟨fun _ _ _ _ _ => (g_nm sc46.nd), fun _ _ _ _ _ => (ts_one (t_cmp (e_blt (fun k => call_lenD k.hK) (a_cons (e_v 7) a_nil) nb.b_len (by decide +kernel)) (e_op e_int (e_op e_int (e_ty (fun _ => call_intD) (a_cons (e_cmp (e_ix (e_ix (e_v 1) (e_v 4) (fun k => ix_D k.hK)) e_int (fun k => ix_D k.hK)) e_str (fun k => op_eqD1 k.hK k.hu)) a_nil) nb.b_int (by decide +kernel)) (fun k => op_mulD k.hK)) (fun k => op_addD k.hK)) (fun k => op_eqD1 k.hK k.hu))), fun _ _ _ _ _ => (e_v 7)⟩ (own := [(PySem.Str.ofString "thing", 7)]) (by kernel_rfl))
  (b_one (s_if (t_w (w_and (t_cmp (e_call h__law_draw (by decide) (a_cons (e_b 5) (a_cons e_int a_nil))) e_int (fun k => op_eqD1 k.hK k.hu)) (w_and1 (t_cmp (e_blt (fun k => call_lenD k.hK) (a_cons (e_v 6) a_nil) nb.b_len (by decide +kernel)) e_int (fun _ => op_gtD))))) (b_one (s_app (i := 3) (e_ix (e_v 6) (e_call h__law_draw (by decide) (a_cons (e_b 5) (a_cons (e_blt (fun k => call_lenD k.hK) (a_cons (e_v 6) a_nil) nb.b_len (by decide +kernel)) a_nil))) (fun k => ix_D k.hK)))) (b_one (s_app (i := 3) (e_call h__law_thing (by decide) (a_cons (e_b 5) (a_cons (e_v 2) (a_cons (e_call h__law_sort (by decide) (a_cons (e_ix (e_v 1) (e_v 4) (fun k => ix_D k.hK)) a_nil)) (a_cons e_int a_nil))))))))))))
  (b_one (s_retO 3))))
theorem w46_law_things_ok {f : Addr} {fd : FuncData} (nb : NB mg) (hK : c.K = K) (tkc : TKc c zLaw) (h__law_bag : DefOk P w K mg base c "_law_bag" d_law_law_bag [false] true 1) (h__law_cell : DefOk P w K mg base c "_law_cell" d_law_law_cell [false, false] false 1) (h__law_draw : DefOk P w K mg base c "_law_draw" d_law_law_draw [true, false] false 1) (h__law_thing : DefOk P w K mg base c "_law_thing" d_law_law_thing [true, false, false, false] false 3) (h__law_sort : DefOk P w K mg base c "_law_sort" d_law_law_sort [false] false 1) (Fn : Fun K "_law_things" "_law_things" s46 f fd) (hm : mg "_law_things" = some (.ref f)) : DefOk P w K mg base c "_law_things" d_law_law_things [false, false, false] true 4 :=
  ⟨f, fd, ["script", "rows", "letters"], def_ok Fn sc46 rfl rfl hK (w46_law_things nb tkc h__law_bag h__law_cell h__law_draw h__law_thing h__law_sort), hm, Fn.kp, Fn.binds fun _ _ _ _ _ _ us hl => match us, hl with | [_, _, _], _ => rfl⟩
theorem w47_law_claim_good {f : Addr} (nb : NB mg) (tkc : TKc c zLaw) (h_claim_sums : DefOk P w K mg base c "claim_sums" d_raws_claim_sums [false, false, false] true 6) (h__law_numbers : DefOk P w K mg base c "_law_numbers" d_law_law_numbers [false, false, false] false 3) (h__law_at : DefOk P w K mg base c "_law_at" d_law_law_at [false, false] false 1) (h__law_sum_good : DefOk P w K mg base c "_law_sum_good" d_law_law_sum_good [false, false] false 1) : ∀ (cdv : Value) (A : Around) (outer : List PySem.Env) (s : Shared) (H : Hp) (E : XK), SB (bCx P w K mg base ["rows", "things", "claim", "letters", "spots", "handed", "found", "numbers", "some", "number", "part"] "_law_claim_good" s47 f cdv A outer s H E) c (bW E) 6 false (defBody s47) b_law_law_claim_good := fun _ _ _ _ _ _ =>
  (b_cons (s_setV (i := 5) (e_lst (a_cons (e_ty (fun k => call_listDK k.hK) (a_cons (e_v 0) a_nil) nb.b_list (by decide +kernel)) (a_cons (e_ty (fun k => call_listDK k.hK) (a_cons (e_v 1) a_nil) nb.b_list (by decide +kernel)) a_nil))))
  (b_cons (s_setV (i := 6) (e_nl' (n_call h_claim_sums (by decide) (a_cons (e_ix (e_v 5) e_int (fun k => ix_D k.hK)) (a_cons (e_ix (e_v 5) e_int (fun k => ix_D k.hK)) (a_cons (e_v 2) a_nil))))))
  (b_cons (s_if (t_w (w_or (t_not (t_val (e_isi (e_v 6) nb.b_isinstance nb.b_list (by decide +kernel) kit_list))) (w_or1 (t_cmp (e_v 5) (e_lst (a_cons (e_v 0) (a_cons (e_v 1) a_nil))) (fun k => op_neD1 k.hK k.hu))))) (b_one (s_ret e_bl)) b_nil)
  (b_cons (s_if (t_cmp (e_blt (fun k => call_lenD k.hK) (a_cons (e_lc (own := [(PySem.Str.ofString "part", 10)]) (i_any (e_v 6)) ⟨fun _ _ _ _ _ => (g_nm sc47.nd), fun _ _ _ _ _ => (ts_one (t_not (t_val (e_call h__law_sum_good (by decide) (a_cons (e_v 10) (a_cons (e_v 3) a_nil)))))), fun _ _ _ _ _ => (e_v 10)⟩ (by kernel_rfl)) a_nil) nb.b_len (by decide +kernel)) e_int (fun _ => op_gtD)) (b_one (s_ret e_bl)) b_nil)
  (b_cons (s_for (i_any (e_v 4)) (g_nm sc47.nd) (b_cons (s_setVLc (i := 8) (own := [(PySem.Str.ofString "number", 9)]) (i_any (e_slc (e_v 2) (o_some e_int) o_none)) ⟨fun _ _ _ _ _ => (g_nm sc47.nd), fun _ _ _ _ _ => ts_nil, fun _ _ _ _ _ => (e_ty (fun k => call_tupleD k.hK) (a_cons (e_lc (own := [(PySem.Str.ofString "part", 10)]) (i_any (e_ix (e_v 1) (e_v 9) (fun k => ix_D k.hK))) ⟨fun _ _ _ _ _ => (g_nm sc47.nd), fun _ _ _ _ _ => ts_nil, fun _ _ _ _ _ => (e_call h__law_at (by decide) (a_cons (e_v 10) (a_cons (e_v 7) a_nil)))⟩ (by kernel_rfl)) a_nil) nb.b_tuple (by decide +kernel))⟩ (by kernel_rfl))
  (b_one (s_if (t_cmp (e_blt (fun k => call_sortZD k.hK) (a_cons (e_lc (own := [(PySem.Str.ofString "part", 10)]) (i_any (e_v 6)) ⟨fun _ _ _ _ _ => (g_nm sc47.nd), fun _ _ _ _ _ => ts_nil, fun _ _ _ _ _ => (e_blt (fun _ => call_absD) (a_cons (e_call h__law_at (by decide) (a_cons (e_v 10) (a_cons (e_v 7) a_nil))) a_nil) nb.b_abs (by decide +kernel))⟩ (by kernel_rfl)) a_nil) nb.b_sorted (by decide +kernel)) (e_call h__law_numbers (by decide) (a_cons (e_v 0) (a_cons (e_v 8) (a_cons (e_v 2) a_nil)))) (fun k => op_neD1 k.hK k.hu)) (b_one (s_ret e_bl)) b_nil))))
  (b_one (s_ret e_bl)))))))
theorem w47_law_claim_good_ok {f : Addr} {fd : FuncData} (nb : NB mg) (hK : c.K = K) (tkc : TKc c zLaw) (h_claim_sums : DefOk P w K mg base c "claim_sums" d_raws_claim_sums [false, false, false] true 6) (h__law_numbers : DefOk P w K mg base c "_law_numbers" d_law_law_numbers [false, false, false] false 3) (h__law_at : DefOk P w K mg base c "_law_at" d_law_law_at [false, false] false 1) (h__law_sum_good : DefOk P w K mg base c "_law_sum_good" d_law_law_sum_good [false, false] false 1) (Fn : Fun K "_law_claim_good" "_law_claim_good" s47 f fd) (hm : mg "_law_claim_good" = some (.ref f)) : DefOk P w K mg base c "_law_claim_good" d_law_law_claim_good [false, false, false, false, false] false 7 :=
  ⟨f, fd, ["rows", "things", "claim", "letters", "spots"], def_ok Fn sc47 rfl rfl hK (w47_law_claim_good nb tkc h_claim_sums h__law_numbers h__law_at h__law_sum_good), hm, Fn.kp, Fn.binds fun _ _ _ _ _ _ us hl => match us, hl with | [_, _, _, _, _], _ => rfl⟩
theorem w48_law {f : Addr} (nb : NB mg) (tkc : TKc c zLaw) (h__law_things : DefOk P w K mg base c "_law_things" d_law_law_things [false, false, false] true 4) (h__law_bag : DefOk P w K mg base c "_law_bag" d_law_law_bag [false] true 1) (h__law_cell : DefOk P w K mg base c "_law_cell" d_law_law_cell [false, false] false 1) (h__law_row : DefOk P w K mg base c "_law_row" d_law_law_row [true, false, false] false 3) (h_tie : DefOk P w K mg base c "tie" d_raws_tie [false, false, false] false 5) (h__law_claim_good : DefOk P w K mg base c "_law_claim_good" d_law_law_claim_good [false, false, false, false, false] false 7) (h__law_sum_good : DefOk P w K mg base c "_law_sum_good" d_law_law_sum_good [false, false] false 1) (h__law_claim : DefOk P w K mg base c "_law_claim" d_law_law_claim [true, false] false 3) (h__law_draw : DefOk P w K mg base c "_law_draw" d_law_law_draw [true, false] false 1) (h__law_at : DefOk P w K mg base c "_law_at" d_law_law_at [false, false] false 1) (h__law_dot : DefOk P w K mg base c "_law_dot" d_law_law_dot [false, false] false 1) (h__law_times : DefOk P w K mg base c "_law_times" d_law_law_times [false, false] false 2) : ∀ (cdv : Value) (A : Around) (outer : List PySem.Env) (s : Shared) (H : Hp) (E : XK), SB (bCx P w K mg base ["script", "frees", "size", "letters", "rows", "k", "things", "bag", "spots", "lap", "found", "numbers", "some", "number", "part"] "law" s48 f cdv A outer s H E) c (bW E) 7 false (defBody s48) b_law_law := fun _ _ _ _ _ _ =>
  (b_cons (s_setV (i := 1) (e_op e_int (e_op (e_call h__law_cell (by decide) (a_cons (e_v 0) (a_cons e_int a_nil))) e_int (fun _ => op_modD)) (fun k => op_addD k.hK)))
  (b_cons (s_setV (i := 2) (e_blt (fun k => call_max2D k.calm) (a_cons (e_v 1) (a_cons (e_op e_int (e_op (e_op (e_call h__law_cell (by decide) (a_cons (e_v 0) (a_cons e_int a_nil))) e_int (fun _ => op_fdivD)) e_int (fun _ => op_modD)) (fun k => op_addD k.hK)) a_nil)) nb.b_max (by decide +kernel)))
  (b_cons (s_setV (i := 3) (e_op e_int (e_blt (fun k => call_max2D k.calm) (a_cons e_int (a_cons (e_op (e_v 1) e_int (fun _ => op_subD)) a_nil)) nb.b_max (by decide +kernel)) (fun k => op_mulD k.hK)))
  (b_cons (s_setO (i := 4) (n_lst a_nil))
  (b_cons (s_for (i_range1 (e_v 2) nb.b_range) (g_nm sc48.nd) (b_one (s_app (i := 4) (e_callT h__law_row (by decide) (n_call h__law_bag (by decide) (a_cons (e_call h__law_cell (by decide) (a_cons (e_v 0) (a_cons (e_op e_int (e_v 5) (fun k => op_addD k.hK)) a_nil))) a_nil)) (a_cons (e_b 4) (a_cons (e_v 1) a_nil))))))
  (b_cons (s_setV (i := 6) (e_nl' (n_call h__law_things (by decide) (a_cons (e_v 0) (a_cons (e_bv 4) (a_cons (e_v 3) a_nil))))))
  (b_cons (s_setO (i := 7) (n_call h__law_bag (by decide) (a_cons (e_call h__law_cell (by decide) (a_cons (e_v 0) (a_cons e_int a_nil))) a_nil)))
  (b_cons (s_setVLc (i := 8) (own := [(PySem.Str.ofString "lap", 9)]) (i_range1 e_int nb.b_range) ⟨fun _ _ _ _ _ => (g_nm sc48.nd), fun _ _ _ _ _ => ts_nil, fun _ _ _ _ _ => (e_ty (fun k => call_tupleD k.hK) (a_cons (e_lc (own := [(PySem.Str.ofString "k", 5)]) (i_range1 (e_v 3) nb.b_range) ⟨fun _ _ _ _ _ => (g_nm sc48.nd), fun _ _ _ _ _ => ts_nil, fun _ _ _ _ _ => (e_op (e_call h__law_draw (by decide) (a_cons (e_b 7) (a_cons e_int a_nil))) e_int (fun _ => op_subD))⟩ (by kernel_rfl)) a_nil) nb.b_tuple (by decide +kernel))⟩ (by kernel_rfl))
  (b_cons (s_for (i_range1 (e_v 2) nb.b_range) (g_nm sc48.nd) (b_one (s_if (t_cmp (e_ix (e_ix (e_bv 4) (e_v 5) (fun k => ix_D k.hK)) e_int (fun k => ix_D k.hK)) e_str (fun k => op_eqD1 k.hK k.hu)) (b_cons (s_setV (i := 10) (e_call h_tie (by decide) (a_cons (e_ty (fun k => call_listDK k.hK) (a_cons (e_bv 4) a_nil) nb.b_list (by decide +kernel)) (a_cons (e_ty (fun k => call_listDK k.hK) (a_cons (e_v 6) a_nil) nb.b_list (by decide +kernel)) (a_cons (e_v 5) a_nil)))))
  (b_cons (s_if (t_not (t_val (e_call h__law_sum_good (by decide) (a_cons (e_v 10) (a_cons (e_v 3) a_nil))))) (b_one (s_ret e_bl)) b_nil)
  (b_one (s_for (i_any (e_v 8)) (g_nm sc48.nd) (b_cons (s_setVLc (i := 12) (own := [(PySem.Str.ofString "number", 13)]) (i_any (e_slc (e_ix (e_bv 4) (e_v 5) (fun k => ix_D k.hK)) (o_some e_int) o_none)) ⟨fun _ _ _ _ _ => (g_nm sc48.nd), fun _ _ _ _ _ => ts_nil, fun _ _ _ _ _ => (e_ty (fun k => call_tupleD k.hK) (a_cons (e_lc (own := [(PySem.Str.ofString "part", 14)]) (i_any (e_ix (e_v 6) (e_v 13) (fun k => ix_D k.hK))) ⟨fun _ _ _ _ _ => (g_nm sc48.nd), fun _ _ _ _ _ => ts_nil, fun _ _ _ _ _ => (e_call h__law_at (by decide) (a_cons (e_v 14) (a_cons (e_v 11) a_nil)))⟩ (by kernel_rfl)) a_nil) nb.b_tuple (by decide +kernel))⟩ (by kernel_rfl))
  (b_one (s_if (t_cmp (e_call h__law_at (by decide) (a_cons (e_v 10) (a_cons (e_v 11) a_nil))) (e_call h__law_dot (by decide) (a_cons (e_ix (e_v 12) e_int (fun k => ix_D k.hK)) (a_cons (e_call h__law_times (by decide) (a_cons (e_ix (e_v 12) e_int (fun k => ix_D k.hK)) (a_cons (e_ix (e_v 12) e_int (fun k => ix_D k.hK)) a_nil))) a_nil))) (fun k => op_neD1 k.hK k.hu)) (b_one (s_ret e_bl)) b_nil))))))) b_nil)))
  (b_cons (s_setO (i := 7) (n_call h__law_bag (by decide) (a_cons (e_call h__law_cell (by decide) (a_cons (e_v 0) (a_cons e_int a_nil))) a_nil)))
  (b_cons (s_for (i_range1 e_int nb.b_range) (g_nm sc48.nd) (b_one (s_if (t_not (t_val (e_call h__law_claim_good (by decide) (a_cons (e_bv 4) (a_cons (e_v 6) (a_cons (e_call h__law_claim (by decide) (a_cons (e_b 7) (a_cons (e_bv 4) a_nil))) (a_cons (e_v 3) (a_cons (e_v 8) a_nil)))))))) (b_one (s_ret e_bl)) b_nil)))
  (b_one (s_ret e_bl)))))))))))))
theorem w48_law_ok {f : Addr} {fd : FuncData} (nb : NB mg) (hK : c.K = K) (tkc : TKc c zLaw) (h__law_things : DefOk P w K mg base c "_law_things" d_law_law_things [false, false, false] true 4) (h__law_bag : DefOk P w K mg base c "_law_bag" d_law_law_bag [false] true 1) (h__law_cell : DefOk P w K mg base c "_law_cell" d_law_law_cell [false, false] false 1) (h__law_row : DefOk P w K mg base c "_law_row" d_law_law_row [true, false, false] false 3) (h_tie : DefOk P w K mg base c "tie" d_raws_tie [false, false, false] false 5) (h__law_claim_good : DefOk P w K mg base c "_law_claim_good" d_law_law_claim_good [false, false, false, false, false] false 7) (h__law_sum_good : DefOk P w K mg base c "_law_sum_good" d_law_law_sum_good [false, false] false 1) (h__law_claim : DefOk P w K mg base c "_law_claim" d_law_law_claim [true, false] false 3) (h__law_draw : DefOk P w K mg base c "_law_draw" d_law_law_draw [true, false] false 1) (h__law_at : DefOk P w K mg base c "_law_at" d_law_law_at [false, false] false 1) (h__law_dot : DefOk P w K mg base c "_law_dot" d_law_law_dot [false, false] false 1) (h__law_times : DefOk P w K mg base c "_law_times" d_law_law_times [false, false] false 2) (Fn : Fun K "law" "law" s48 f fd) : FnOk P w K mg base (L2.CX P w) 8 f fd ["script"] (spF c d_law_law [false] false) :=
  def_ok Fn sc48 rfl rfl hK (w48_law nb tkc h__law_things h__law_bag h__law_cell h__law_row h_tie h__law_claim_good h__law_sum_good h__law_claim h__law_draw h__law_at h__law_dot h__law_times)
end
end L72


/-! DtB: the cells of a script, and what is drawn of one. -/
namespace Dn
open PySem
theorem cell_ok (ns : List Int) (k : Nat) : d_law_law_cell [.list (ns.map .int), .int k] = .ok (.int (cellP ns k)) [] := by
  unfold d_law_law_cell b_law_law_cell
  rw [runD_ap rfl]
  by_cases h : k < ns.length
  · have e : ((k : Int) < ((ns.map PyData.int).length : Nat)) := by simp [h]
    have e2 : (ns.map PyData.int)[k]? = some (.int (cellP ns k)) := by simp [h, cellP]
    simp only [dnA, List.getElem?_cons_zero, List.getElem?_cons_succ, List.set_cons_zero, List.set_cons_succ, if_true, Bool.false_eq_true, if_false, ↓reduceIte, decide_true, decide_false, decide_eq_true_eq, Option.elim_some, Option.map_some, String.reduceBEq, Bool.or_false, Bool.false_or, Bool.or_true, Bool.true_or, Bool.not_true, Bool.not_false, ne_eq, not_true_eq_false, not_false_eq_true, List.cons_append, List.nil_append, List.replicate, append_ap, e, at_nat (xs := ns.map PyData.int) k (by simpa using h), e2]
  · have e : ¬ ((k : Int) < ((ns.map PyData.int).length : Nat)) := by simp; omega
    simp only [dnA, List.getElem?_cons_zero, List.getElem?_cons_succ, List.set_cons_zero, List.set_cons_succ, if_true, Bool.false_eq_true, if_false, ↓reduceIte, decide_true, decide_false, decide_eq_true_eq, Option.elim_some, Option.map_some, String.reduceBEq, Bool.or_false, Bool.false_or, Bool.or_true, Bool.true_or, Bool.not_true, Bool.not_false, ne_eq, not_true_eq_false, not_false_eq_true, List.cons_append, List.nil_append, List.replicate, append_ap, e]
    simp [cellP, h]
theorem bag_ok (z : Int) (h : lg z ≤ 1048576) : d_law_law_bag [.int z] = .ok (.list [.int (bagA z), .int (bagB z)]) [] := by
  unfold d_law_law_bag b_law_law_bag
  rw [runD_ap rfl]
  have hm : mulOk (z.natAbs : Int) (if (10 : Int) ^ Int.toNat 18 ≤ z.natAbs then 1 else 0) = true := by
    refine mulOk_lg ?_
    have h1 : lg (z.natAbs : Int) = lg z := by unfold lg; simp
    have h2 : lg (if (10 : Int) ^ Int.toNat 18 ≤ z.natAbs then 1 else 0) = 0 := by split <;> decide
    rw [h1, h2]
    omega
  simp only [dnA, List.getElem?_cons_zero, List.getElem?_cons_succ, List.set_cons_zero, List.set_cons_succ, if_true, Bool.false_eq_true, if_false, ↓reduceIte, decide_true, decide_false, decide_eq_true_eq, Option.elim_some, Option.map_some, String.reduceBEq, Bool.or_false, Bool.false_or, Bool.or_true, Bool.true_or, Bool.not_true, Bool.not_false, ne_eq, not_true_eq_false, not_false_eq_true, List.cons_append, List.nil_append, List.replicate, append_ap, powD_int (i := 10) (j := 18) (by decide), modD_int (j := 2147483647) (by decide), mulD_int hm]
  rfl
theorem draw_okL {a b m : Int} (B : BagOk a b) (hm : 0 < m) (hl : lg m < 9000) : d_law_law_draw [.list [.int a, .int b], .int m] = .ok (.int (drawR a b m)) [.list [.int (drawA a m), .int (drawB a b)]] := by
  obtain ⟨a0, al, b0, bl⟩ := B
  have fm : fdivOk m = true := by
    unfold fdivOk
    rw [decide_eq_true hm]
    unfold lg at hl
    rw [decide_eq_true (by omega)]
    rfl
  unfold d_law_law_draw b_law_law_draw
  rw [runD_ap rfl]
  by_cases h : 0 < a
  · simp only [dnA, List.getElem?_cons_zero, List.getElem?_cons_succ, List.set_cons_zero, List.set_cons_succ, if_true, Bool.false_eq_true, if_false, ↓reduceIte, decide_true, decide_false, decide_eq_true_eq, Option.elim_some, Option.map_some, String.reduceBEq, Bool.or_false, Bool.false_or, Bool.or_true, Bool.true_or, Bool.not_true, Bool.not_false, ne_eq, not_true_eq_false, not_false_eq_true, List.cons_append, List.nil_append, List.replicate, append_ap, h, modD_int hm, fdivD_int fm]
    simp [drawR, drawA, drawB, h]
  · have hB : 0 ≤ (b * 48271 + 11) % 2147483647 ∧ (b * 48271 + 11) % 2147483647 < 2147483647 := ⟨Int.emod_nonneg _ (by decide), Int.emod_lt_of_pos _ (by decide)⟩
    have m1 : mulOk b 48271 = true := mulOk_lg (by have : lg b ≤ 31 := lg_lt (by omega); have : lg 48271 = 15 := by decide
                                                   omega)
    generalize hc : (b * 48271 + 11) % 2147483647 = c at hB
    have m2 : mulOk c (c / 65536 + 7) = true := mulOk_lg (by
      have : lg c ≤ 31 := lg_lt (by omega)
      have : lg (c / 65536 + 7) ≤ 31 := lg_lt (by omega)
      omega)
    simp only [dnA, List.getElem?_cons_zero, List.getElem?_cons_succ, List.set_cons_zero, List.set_cons_succ, if_true, Bool.false_eq_true, if_false, ↓reduceIte, decide_true, decide_false, decide_eq_true_eq, Option.elim_some, Option.map_some, String.reduceBEq, Bool.or_false, Bool.false_or, Bool.or_true, Bool.true_or, Bool.not_true, Bool.not_false, ne_eq, not_true_eq_false, not_false_eq_true, List.cons_append, List.nil_append, List.replicate, append_ap, h, modD_int hm, fdivD_int fm, mulD_int m1, modD_int (j := 2147483647) (by decide), hc, fdivD_int (j := 65536) (by decide), mulD_int m2, modD_int (j := 2147483629) (by decide), fdivD_int (j := 32) (by decide)]
    simp [drawR, drawA, drawB, h, hc]
theorem draw_ok {a b m : Int} (B : BagOk a b) (hm : 0 < m) (hl : m < 1000000) : d_law_law_draw [.list [.int a, .int b], .int m] = .ok (.int (drawR a b m)) [.list [.int (drawA a m), .int (drawB a b)]] :=
  draw_okL B hm (by have : lg m ≤ 20 := lg_lt (by omega)
                    omega)
end Dn


/-! DtK: letter sums, pure: keys, sizes, sums and products. -/
namespace Dn
open PySem
/-- so many letters are a key -/
def ZL (L : Nat) : Prop := zLaw = true ∨ (L ≠ 3 ∧ L ≠ 15)
theorem ZL.k {L : Nat} (h : ZL L) {k : List Int} (hk : k.length = L) : zLaw = true ∨ (k.length ≠ 3 ∧ k.length ≠ 15) := by rw [hk]; exact h
/-- the keys of a dict -/
structure KeysL (L : Nat) (al : AL) : Prop where
  nd : (keysA al).Nodup
  len : ∀ k ∈ keysA al, k.length = L
theorem KeysL.nil {L : Nat} : KeysL L [] := ⟨by simp [keysA], fun k h => by cases h⟩
theorem KeysL.add {L : Nat} {al : AL} (h : KeysL L al) {k : List Int} (hk : k.length = L) (m : Int) : KeysL L (addA al k m) :=
  ⟨keys_put_nodup h.nd _ _, fun k' h' => by
    rcases keys_put_mem h' with e | e
    · rw [e]; exact hk
    · exact h.len k' e⟩
theorem KeysL.one {al : AL} (h : KeysL 0 al) : al.length ≤ 1 := by
  have hk : ∀ k ∈ keysA al, k = [] := fun k hk => List.eq_nil_of_length_eq_zero (h.len k hk)
  have hn := h.nd
  have hl : (keysA al).length = al.length := by simp [keysA]
  rw [← hl]
  match hq : keysA al with
  | [] => simp
  | [_] => simp
  | a :: b :: r =>
    rw [hq] at hk hn
    have e1 := hk a (by simp)
    have e2 := hk b (by simp)
    have := (List.nodup_cons.mp hn).1
    exact absurd (by rw [e1, e2]; simp) this
theorem KeysL.srt {L : Nat} {al : AL} (h : KeysL L al) : tsortN [dcD al] = some (.list ((sortK (keysA al)).map kD)) :=
  tsort_ok h.len (by
    by_cases e : 1 ≤ L
    · exact .inl e
    · have : L = 0 := by omega
      subst this
      exact .inr h.one)
/-- the comprehension over a dict's keys in order -/
theorem terms_ok {L : Nat} {al : AL} (z : ZL L) (h : KeysL L al) (hl : al.length ≤ 100000) {ρ : Env} {j : Nat} {ts : M Bool} {el : M Opd} (hj : ρ[j]? = some .un)
    (hts : ∀ k ∈ keysA al, ts (ρ.set j (.val (kD k))) = .ok (decide (getA al k ≠ 0)) (ρ.set j (.val (kD k))))
    (hel : ∀ k ∈ keysA al, el (ρ.set j (.val (kD k))) = .ok (.val (tmD (k, getA al k))) (ρ.set j (.val (kD k)))) :
    lcO (ofL ((sortK (keysA al)).map kD)) always (.nm j) [j] ts el ((sortK (keysA al)).map kD).length ρ = .ok (.val (.list ((nfA al).map tmD))) ρ := by
  have back0 : ρ.set j .un = ρ := by
    apply List.ext_getElem?
    intro k
    by_cases e : j = k
    · subst e
      rw [List.getElem?_set_self (List.getElem?_eq_some_iff.mp hj).1, hj]
    · rw [List.getElem?_set_ne e]
  rw [lcO_over (sortK (keysA al)) kD (fun k => tmD (k, getA al k)) (fun k => decide (getA al k ≠ 0))]
  · unfold nfA
    rw [List.map_map]
    rfl
  · intro k hk
    have hk' : k ∈ keysA al := (sortK_perm _).mem_iff.mp hk
    refine ⟨_, rfl, hts k hk', ?_, fun _ => hel k hk'⟩
    show (ρ.set j (.val (kD k))).set j .un = ρ
    rw [List.set_set, back0]
  · exact back0
  · show ρ.set j (match ρ[j]? with | some (.val d) => .val d | _ => .un) = ρ
    rw [hj]
    exact back0
  · rw [(sortK_perm _).length_eq]
    simpa [keysA] using hl
theorem neD_i0 {i : Int} : neD (.int i) (.int 0) = some (.bool (decide (i ≠ 0))) := neD_int
/-- how great a letter sum's numbers are together -/
def nrm (al : AL) : Nat := (al.map fun p => p.2.natAbs).sum
theorem get_nrm (al : AL) (k : List Int) : (getA al k).natAbs ≤ nrm al := by
  induction al with
  | nil => exact Nat.le_refl _
  | cons p al ih =>
    show (if p.1 = k then p.2 else getA al k).natAbs ≤ p.2.natAbs + nrm al
    split <;> omega
theorem mem_nrm {al : AL} {p : List Int × Int} (h : p ∈ al) : p.2.natAbs ≤ nrm al := by
  induction al with
  | nil => cases h
  | cons q al ih =>
    show p.2.natAbs ≤ q.2.natAbs + nrm al
    rcases List.mem_cons.mp h with rfl | h
    · omega
    · have := ih h; omega
theorem rep_nrm (k : List Int) (n : Int) : ∀ al : AL, (keysA al).Nodup → k ∈ keysA al → nrm (repA al k n) + (getA al k).natAbs = nrm al + n.natAbs
  | [], _, h => by cases h
  | p :: al, hn, h => by
    obtain ⟨h1, h2⟩ := List.nodup_cons.mp (show (p.1 :: keysA al).Nodup from hn)
    show (if p.1 = k then (p.1, n) else p).2.natAbs + nrm (repA al k n) + (if p.1 = k then p.2 else getA al k).natAbs = p.2.natAbs + nrm al + n.natAbs
    by_cases e : p.1 = k
    · subst e
      have : ∀ {bl : AL}, p.1 ∉ keysA bl → repA bl p.1 n = bl := by
        intro bl
        induction bl with
        | nil => intro _; rfl
        | cons q bl ih2 =>
          intro hq
          show (if q.1 = p.1 then (q.1, n) else q) :: repA bl p.1 n = q :: bl
          rw [if_neg fun e => hq (by simp [keysA, e]), ih2 fun z => hq (by simp only [keysA, List.map_cons, List.mem_cons]; exact .inr z)]
      rw [this h1]
      simp only [if_true]
      omega
    · have hm : k ∈ keysA al := by
        rcases List.mem_cons.mp h with z | z
        · exact absurd z.symm e
        · exact z
      have := rep_nrm k n al h2 hm
      simp only [e, if_false]
      omega
theorem add_nrm {al : AL} (h : (keysA al).Nodup) (k : List Int) (m : Int) : nrm (addA al k m) ≤ nrm al + m.natAbs := by
  unfold addA putA
  split
  · rename_i hk
    have := rep_nrm k (getA al k + m) al h hk
    omega
  · rename_i hk
    rw [get_none hk]
    unfold nrm
    simp
theorem foldA_KL {α : Type} {L : Nat} (f : α → List Int) (g : α → Int) : ∀ (ps : List α) (acc : AL), (∀ p ∈ ps, (f p).length = L) → KeysL L acc → KeysL L (ps.foldl (fun acc p => addA acc (f p) (g p)) acc)
  | [], _, _, h => h
  | p :: ps, acc, hp, h => foldA_KL f g ps _ (fun q hq => hp q (by simp [hq])) (h.add (hp p (by simp)) _)
theorem foldA_snoc {α : Type} (f : α → List Int) (g : α → Int) (ps : List α) (p : α) (acc : AL) : (ps ++ [p]).foldl (fun acc p => addA acc (f p) (g p)) acc = addA (ps.foldl (fun acc p => addA acc (f p) (g p)) acc) (f p) (g p) := by rw [List.foldl_append]; rfl
theorem at_k {k : List Int} {l : Nat} (h : l < k.length) : at_ (k.map PyData.int) (l : Int) = some (.int (k.getD l 0)) := by
  rw [at_nat l (by simpa using h), List.getElem?_map, List.getElem?_eq_getElem h, List.getD_eq_getElem?_getD, List.getElem?_eq_getElem h]
  rfl
theorem tg_tm {p : List Int × Int} {i j : Nat} {ρ : Env} : tg (.tp [i, j]) (tmD p) ρ = some ((ρ.set i (.val (kD p.1))).set j (.val (.int p.2))) := rfl
theorem nrm_keys {al : AL} (h : (keysA al).Nodup) : nrm al = ((keysA al).map fun k => (getA al k).natAbs).sum := by
  unfold nrm keysA
  rw [List.map_map]
  congr 1
  apply List.map_congr_left
  intro p hp
  show p.2.natAbs = (getA al p.1).natAbs
  rw [get_mem h hp]
theorem sumN_perm {α : Type} {f : α → Nat} {l m : List α} (h : l.Perm m) : (l.map f).sum = (m.map f).sum := by
  induction h with
  | nil => rfl
  | cons x _ ih => simp [ih]
  | swap x y l => simp; omega
  | trans _ _ ih1 ih2 => exact ih1.trans ih2
theorem nrm_nf {al : AL} (h : (keysA al).Nodup) : nrm (nfA al) ≤ nrm al := by
  rw [nrm_keys (nf_nodup h), keys_nf, nrm_keys h]
  have e1 : ∀ l : List (List Int), ((l.filter fun k => decide (getA al k ≠ 0)).map fun k => (getA (nfA al) k).natAbs).sum ≤ (l.map fun k => (getA al k).natAbs).sum := by
    intro l
    induction l with
    | nil => simp
    | cons k l ih =>
      by_cases hz : getA al k = 0
      · rw [List.filter_cons_of_neg (by simp [hz]), List.map_cons, List.sum_cons]
        omega
      · rw [List.filter_cons_of_pos (by simp [hz]), List.map_cons, List.map_cons, List.sum_cons, List.sum_cons, get_nf h]
        omega
  rw [← sumN_perm (sortK_perm (keysA al))]
  exact e1 _
theorem foldA_nrm {α : Type} (f : α → List Int) (g : α → Int) : ∀ (ps : List α) (acc : AL), (keysA acc).Nodup → nrm (ps.foldl (fun acc p => addA acc (f p) (g p)) acc) ≤ nrm acc + (ps.map fun p => (g p).natAbs).sum
  | [], acc, _ => by simp
  | p :: ps, acc, h => by
    have h1 := foldA_nrm f g ps (addA acc (f p) (g p)) (keys_put_nodup h _ _)
    have h2 := add_nrm h (f p) (g p)
    rw [List.foldl_cons, List.map_cons, List.sum_cons]
    omega
/-! ### sums and products -/
/-- at most so many terms: of two letters, each to d, or n else -/
def cap (L n d : Nat) : Nat := if L = 2 then (d + 1) * (d + 1) else n
/-- a letter sum as the program keeps them -/
structure Pol (L n d e : Nat) (o : AL) : Prop where
  nf : NF L o
  srt : SrtL (keysA o)
  few : o.length ≤ cap L n d
  low : ∀ p ∈ o, ∀ x ∈ p.1, x ≤ d
  num : nrm o < 2 ^ e
theorem nodup_le {α : Type} [DecidableEq α] : ∀ {l m : List α}, l.Nodup → (∀ x ∈ l, x ∈ m) → l.length ≤ m.length
  | [], _, _, _ => Nat.zero_le _
  | x :: l, m, hn, h => by
    obtain ⟨h1, h2⟩ := List.nodup_cons.mp hn
    have hx := h x (by simp)
    have := nodup_le (m := m.erase x) h2 fun y hy => by
      have ne : y ≠ x := fun e => h1 (e ▸ hy)
      exact (List.mem_erase_of_ne ne).mpr (h y (by simp [hy]))
    rw [List.length_erase_of_mem hx] at this
    have : 0 < m.length := List.length_pos_of_mem hx
    rw [List.length_cons]
    omega
theorem two_few {d : Nat} {o : AL} (hn : (keysA o).Nodup) (hl : ∀ p ∈ o, p.1.length = 2) (hp : ∀ p ∈ o, ∀ x ∈ p.1, 0 ≤ x ∧ x ≤ (d : Int)) : o.length ≤ (d + 1) * (d + 1) := by
  have e : o.length = (keysA o).length := by simp [keysA]
  let m : List (List Int) := (List.range (d + 1)).flatMap fun (i : Nat) => (List.range (d + 1)).map fun (j : Nat) => [(i : Int), (j : Int)]
  have hm : m.length = (d + 1) * (d + 1) := by
    have : ∀ k, ((List.range k).flatMap fun (i : Nat) => (List.range (d + 1)).map fun (j : Nat) => [(i : Int), (j : Int)]).length = k * (d + 1) := by
      intro k
      induction k with
      | zero => simp
      | succ k ih =>
        rw [List.range_succ (n := k), List.flatMap_append, List.length_append, ih]
        simp [Nat.add_mul]
    exact this (d + 1)
  rw [e, ← hm]
  refine nodup_le hn fun k hk => ?_
  obtain ⟨p, hp1, rfl⟩ := List.mem_map.mp hk
  have h1 := hl p hp1
  match hq : p.1, h1 with
  | [x, y], _ =>
    have hx := hp p hp1 x (by rw [hq]; simp)
    have hy := hp p hp1 y (by rw [hq]; simp)
    obtain ⟨i, rfl⟩ := Int.eq_ofNat_of_zero_le hx.1
    obtain ⟨j, rfl⟩ := Int.eq_ofNat_of_zero_le hy.1
    exact List.mem_flatMap.mpr ⟨i, List.mem_range.mpr (by omega), List.mem_map.mpr ⟨j, List.mem_range.mpr (by omega), rfl⟩⟩
/-- what comes of a dict -/
theorem pol_nf {L n d e : Nat} {al : AL} (K : KeysL L al) (hn : al.length ≤ n) (hp : ∀ k ∈ keysA al, ∀ x ∈ k, 0 ≤ x ∧ x ≤ (d : Int)) (he : nrm al < 2 ^ e) : Pol L n d e (nfA al) := by
  have hm : ∀ p ∈ nfA al, p.1 ∈ keysA al := fun p h => (nf_mem h).2.2
  have N : NF L (nfA al) := ⟨nf_nodup K.nd, fun p h => K.len _ (hm p h), fun p h x hx => (hp _ (hm p h) x hx).1, fun p h => (nf_mem h).2.1⟩
  refine ⟨N, nf_srt al, ?_, fun p h x hx => (hp _ (hm p h) x hx).2, Nat.lt_of_le_of_lt (nrm_nf K.nd) he⟩
  unfold cap
  split
  · rename_i h2
    subst h2
    exact two_few N.nd N.len fun p h => hp _ (hm p h)
  · exact Nat.le_trans (nf_len al) hn
def dctP (a b : AL) : AL := b.foldl (fun acc p => addA acc p.1 p.2) a
def plusA (a b : AL) : AL := nfA (dctP a b)
theorem NF.keys {L : Nat} {a : AL} (h : NF L a) : KeysL L a := ⟨h.nd, fun k hk => by
  obtain ⟨p, hp, rfl⟩ := List.mem_map.mp hk
  exact h.len p hp⟩
theorem dctP_keys {a b : AL} {k : List Int} (h : k ∈ keysA (dctP a b)) : k ∈ keysA a ∨ k ∈ keysA b := by
  rcases foldA_keys (fun p : List Int × Int => p.1) (fun p => p.2) b a k h with h | ⟨p, hp, e⟩
  · exact .inl h
  · exact .inr (List.mem_map.mpr ⟨p, hp, e⟩)
theorem plusA_pol {L n1 n2 d1 d2 e1 e2 n d e : Nat} {a b : AL} (ha : Pol L n1 d1 e1 a) (hb : Pol L n2 d2 e2 b) (hn : n1 + n2 ≤ n) (h1 : d1 ≤ d) (h2 : d2 ≤ d) (h3 : e1 < e) (h4 : e2 < e) : Pol L n d e (plusA a b) := by
  by_cases hL : L = 2
  · have K : KeysL L (dctP a b) := foldA_KL _ _ b a (fun p hp => hb.nf.len p hp) ha.nf.keys
    have hp : ∀ k ∈ keysA (dctP a b), ∀ x ∈ k, 0 ≤ x ∧ x ≤ (d : Int) := fun k hk x hx => by
      rcases dctP_keys hk with h | h <;> obtain ⟨p, hp, rfl⟩ := List.mem_map.mp h
      · have := ha.nf.pos p hp x hx; have := ha.low p hp x hx; omega
      · have := hb.nf.pos p hp x hx; have := hb.low p hp x hx; omega
    have q := pol_nf (n := (dctP a b).length) (e := e) K (Nat.le_refl _) hp (by
      have := foldA_nrm (fun p : List Int × Int => p.1) (fun p => p.2) b a ha.nf.nd
      have := ha.num; have := hb.num
      have g1 : 2 ^ e1 ≤ 2 ^ (e - 1) := Nat.pow_le_pow_right (by decide) (by omega)
      have g2 : 2 ^ e2 ≤ 2 ^ (e - 1) := Nat.pow_le_pow_right (by decide) (by omega)
      have g3 : 2 ^ e = 2 ^ (e - 1) + 2 ^ (e - 1) := by rw [show e = (e - 1) + 1 by omega, Nat.pow_succ]; simp; omega
      unfold dctP
      unfold nrm at *
      omega)
    exact ⟨q.nf, q.srt, by have := q.few; unfold cap at this ⊢; rw [if_pos hL] at this ⊢; exact this, q.low, q.num⟩
  · have K : KeysL L (dctP a b) := foldA_KL _ _ b a (fun p hp => hb.nf.len p hp) ha.nf.keys
    have hp : ∀ k ∈ keysA (dctP a b), ∀ x ∈ k, 0 ≤ x ∧ x ≤ (d : Int) := fun k hk x hx => by
      rcases dctP_keys hk with h | h <;> obtain ⟨p, hp, rfl⟩ := List.mem_map.mp h
      · have := ha.nf.pos p hp x hx; have := ha.low p hp x hx; omega
      · have := hb.nf.pos p hp x hx; have := hb.low p hp x hx; omega
    have q1 := ha.few
    have q2 := hb.few
    unfold cap at q1 q2
    rw [if_neg hL] at q1 q2
    refine pol_nf (e := e) K ?_ hp ?_
    · have := foldA_len (fun p : List Int × Int => p.1) (fun p => p.2) b a
      unfold dctP
      omega
    · have := foldA_nrm (fun p : List Int × Int => p.1) (fun p => p.2) b a ha.nf.nd
      have := ha.num; have := hb.num
      have g1 : 2 ^ e1 ≤ 2 ^ (e - 1) := Nat.pow_le_pow_right (by decide) (by omega)
      have g2 : 2 ^ e2 ≤ 2 ^ (e - 1) := Nat.pow_le_pow_right (by decide) (by omega)
      have g3 : 2 ^ e = 2 ^ (e - 1) + 2 ^ (e - 1) := by rw [show e = (e - 1) + 1 by omega, Nat.pow_succ]; simp; omega
      unfold dctP
      unfold nrm at *
      omega
theorem plusA_ev {L : Nat} {a b : AL} (ha : NF L a) (xs : List Int) : evL (plusA a b) xs = evL a xs + evL b xs := by
  have K : (keysA (dctP a b)).Nodup := foldA_nodup _ _ b a ha.nd
  unfold plusA
  rw [evL_nf K]
  unfold dctP
  rw [foldA_ev _ _ xs b a ha.nd]
  rfl
/-! ### with the other sign -/
def negA (a : AL) : AL := a.map fun p => (p.1, 0 - p.2)
theorem negA_keys (a : AL) : keysA (negA a) = keysA a := by unfold negA keysA; rw [List.map_map]; rfl
theorem negA_pol {L n d e : Nat} {a : AL} (h : Pol L n d e a) : Pol L n d e (negA a) := by
  have mem : ∀ p ∈ negA a, ∃ q ∈ a, p = (q.1, 0 - q.2) := fun p hp => by
    obtain ⟨q, hq, e⟩ := List.mem_map.mp hp
    exact ⟨q, hq, e.symm⟩
  refine ⟨⟨by rw [negA_keys]; exact h.nf.nd, fun p hp => ?_, fun p hp => ?_, fun p hp => ?_⟩, by rw [negA_keys]; exact h.srt, by unfold negA; rw [List.length_map]; exact h.few, fun p hp => ?_, ?_⟩
  · obtain ⟨q, hq, rfl⟩ := mem p hp; exact h.nf.len q hq
  · obtain ⟨q, hq, rfl⟩ := mem p hp; exact h.nf.pos q hq
  · obtain ⟨q, hq, rfl⟩ := mem p hp
    have := h.nf.nz q hq
    show 0 - q.2 ≠ 0
    omega
  · obtain ⟨q, hq, rfl⟩ := mem p hp; exact h.low q hq
  · have : nrm (negA a) = nrm a := by
      unfold nrm negA
      rw [List.map_map]
      congr 1
      apply List.map_congr_left
      intro q _
      show (0 - q.2).natAbs = q.2.natAbs
      omega
    rw [this]
    exact h.num
theorem negA_ev (a : AL) (xs : List Int) : evL (negA a) xs = - evL a xs := by
  unfold negA
  induction a with
  | nil => rfl
  | cons p a ih =>
    rw [List.map_cons, evL_cons, evL_cons, ih]
    show (0 - p.2) * mono p.1 xs + - evL a xs = _
    rw [Int.sub_mul, Int.zero_mul]
    omega
/-! ### products -/
def addK (a b : List Int) : List Int := (a.zip b).map fun q => q.1 + q.2
theorem addK_len {a b : List Int} {L : Nat} (h1 : a.length = L) (h2 : b.length = L) : (addK a b).length = L := by unfold addK; rw [List.length_map, List.length_zip]; omega
theorem mono_add : ∀ (a b xs : List Int), a.length = b.length → xs.length = a.length → (∀ x ∈ a, 0 ≤ x) → (∀ x ∈ b, 0 ≤ x) → mono (addK a b) xs = mono a xs * mono b xs
  | [], [], _, _, _, _, _ => by simp [addK, mono]
  | [], _ :: _, _, h, _, _, _ => by simp at h
  | _ :: _, [], _, h, _, _, _ => by simp at h
  | _ :: _, _ :: _, [], _, h, _, _ => by simp at h
  | a :: as, b :: bs, x :: xs, h1, h2, h3, h4 => by
    have ih := mono_add as bs xs (by simpa using h1) (by simpa using h2) (fun y hy => h3 y (by simp [hy])) (fun y hy => h4 y (by simp [hy]))
    show x ^ (a + b).toNat * mono (addK as bs) xs = x ^ a.toNat * mono as xs * (x ^ b.toNat * mono bs xs)
    have ha := h3 a (by simp)
    have hb := h4 b (by simp)
    rw [ih, show (a + b).toNat = a.toNat + b.toNat by omega, Int.pow_add]
    generalize x ^ a.toNat = p
    generalize x ^ b.toNat = q
    rw [Int.mul_assoc, Int.mul_assoc, Int.mul_left_comm q]
theorem addK_mem : ∀ {a b : List Int} {x : Int}, x ∈ addK a b → ∃ y ∈ a, ∃ z ∈ b, x = y + z := fun {a b x} h => by
  obtain ⟨q, hq, rfl⟩ := List.mem_map.mp h
  exact ⟨q.1, (List.of_mem_zip hq).1, q.2, (List.of_mem_zip hq).2, rfl⟩
def rowT (b : AL) (p : List Int × Int) : AL := b.map fun q => (addK p.1 q.1, p.2 * q.2)
def prdT (a b : AL) : AL := a.flatMap (rowT b)
def mkA (ps : AL) : AL := ps.foldl (fun acc p => addA acc p.1 p.2) []
def timesA (a b : AL) : AL := nfA (mkA (prdT a b))
theorem prdT_mem {a b : AL} {r : List Int × Int} (h : r ∈ prdT a b) : ∃ p ∈ a, ∃ q ∈ b, r = (addK p.1 q.1, p.2 * q.2) := by
  obtain ⟨p, hp, h⟩ := List.mem_flatMap.mp h
  obtain ⟨q, hq, e⟩ := List.mem_map.mp h
  exact ⟨p, hp, q, hq, e.symm⟩
theorem prdT_len (a b : AL) : (prdT a b).length = a.length * b.length := by
  unfold prdT
  induction a with
  | nil => simp
  | cons p a ih => rw [List.flatMap_cons, List.length_append, ih]; simp [rowT, Nat.add_mul]; omega
theorem prdT_nrm (a b : AL) : ((prdT a b).map fun p => p.2.natAbs).sum = nrm a * nrm b := by
  have e : ∀ p : List Int × Int, ((rowT b p).map fun p => p.2.natAbs).sum = p.2.natAbs * nrm b := by
    intro p
    unfold rowT nrm
    induction b with
    | nil => simp
    | cons q b ih =>
      simp only [List.map_cons, List.sum_cons, Int.natAbs_mul, Nat.mul_add]
      rw [ih]
  unfold prdT
  induction a with
  | nil => simp [nrm]
  | cons p a ih =>
    rw [List.flatMap_cons, List.map_append, List.sum_append, ih, e p]
    show _ = (p.2.natAbs + nrm a) * nrm b
    rw [Nat.add_mul]
theorem mk_keys {ps : AL} {k : List Int} (h : k ∈ keysA (mkA ps)) : ∃ p ∈ ps, p.1 = k := by
  rcases foldA_keys (fun p : List Int × Int => p.1) (fun p => p.2) ps [] k h with h | h
  · simp [keysA] at h
  · exact h
theorem mk_KL {L : Nat} {ps : AL} (hk : ∀ p ∈ ps, p.1.length = L) : KeysL L (mkA ps) := foldA_KL _ _ _ _ hk KeysL.nil
theorem timesA_pol {L n1 n2 d1 d2 e1 e2 n d e : Nat} {a b : AL} (ha : Pol L n1 d1 e1 a) (hb : Pol L n2 d2 e2 b) (hn : n1 * n2 ≤ n) (h1 : d1 + d2 ≤ d) (h3 : e1 + e2 ≤ e) : Pol L n d e (timesA a b) := by
  have K : KeysL L (mkA (prdT a b)) := mk_KL fun r hr => by
    obtain ⟨p, hp, q, hq, rfl⟩ := prdT_mem hr
    exact addK_len (ha.nf.len p hp) (hb.nf.len q hq)
  have hp : ∀ k ∈ keysA (mkA (prdT a b)), ∀ x ∈ k, 0 ≤ x ∧ x ≤ (d : Int) := fun k hk x hx => by
    obtain ⟨r, hr, rfl⟩ := mk_keys hk
    obtain ⟨p, hp, q, hq, rfl⟩ := prdT_mem hr
    obtain ⟨y, hy, z, hz, rfl⟩ := addK_mem hx
    have := ha.nf.pos p hp y hy; have := ha.low p hp y hy
    have := hb.nf.pos q hq z hz; have := hb.low q hq z hz
    omega
  have he : nrm (mkA (prdT a b)) < 2 ^ e := by
    have := foldA_nrm (fun p : List Int × Int => p.1) (fun p => p.2) (prdT a b) [] (by simp [keysA])
    rw [prdT_nrm] at this
    have this : nrm (mkA (prdT a b)) ≤ 0 + nrm a * nrm b := this
    have h5 : nrm a * nrm b < 2 ^ e1 * 2 ^ e2 := Nat.mul_lt_mul'' ha.num hb.num
    rw [← Nat.pow_add] at h5
    have h6 : 2 ^ (e1 + e2) ≤ 2 ^ e := Nat.pow_le_pow_right (by decide) h3
    omega
  have hl : (mkA (prdT a b)).length ≤ a.length * b.length := by
    have := foldA_len (fun p : List Int × Int => p.1) (fun p => p.2) (prdT a b) []
    rw [prdT_len] at this
    have this : (mkA (prdT a b)).length ≤ 0 + a.length * b.length := this
    omega
  by_cases hL : L = 2
  · have q := pol_nf (n := (mkA (prdT a b)).length) (e := e) K (Nat.le_refl _) hp he
    exact ⟨q.nf, q.srt, by have := q.few; unfold cap at this ⊢; rw [if_pos hL] at this ⊢; exact this, q.low, q.num⟩
  · have q1 := ha.few
    have q2 := hb.few
    unfold cap at q1 q2
    rw [if_neg hL] at q1 q2
    exact pol_nf (e := e) K (Nat.le_trans hl (Nat.le_trans (Nat.mul_le_mul q1 q2) hn)) hp he
theorem timesA_ev {L : Nat} {a b : AL} (ha : NF L a) (hb : NF L b) {xs : List Int} (hx : xs.length = L) : evL (timesA a b) xs = evL a xs * evL b xs := by
  have K : KeysL L (mkA (prdT a b)) := mk_KL fun r hr => by
    obtain ⟨p, hp, q, hq, rfl⟩ := prdT_mem hr
    exact addK_len (ha.len p hp) (hb.len q hq)
  unfold timesA
  rw [evL_nf K.nd]
  unfold mkA
  rw [foldA_ev _ _ xs (prdT a b) [] (by simp [keysA]), evL_nil, Int.zero_add]
  show evL (prdT a b) xs = _
  have hrow : ∀ p ∈ a, evL (rowT b p) xs = p.2 * mono p.1 xs * evL b xs := by
    intro p hp
    have hb' : ∀ q ∈ b, q.1.length = L ∧ ∀ x ∈ q.1, 0 ≤ x := fun q hq => ⟨hb.len q hq, hb.pos q hq⟩
    clear hb K
    unfold rowT
    induction b with
    | nil => simp [evL]
    | cons q b ih =>
      rw [List.map_cons, evL_cons, evL_cons, ih fun q' h => hb' q' (by simp [h])]
      obtain ⟨g1, g2⟩ := hb' q (by simp)
      show p.2 * q.2 * mono (addK p.1 q.1) xs + _ = _
      rw [mono_add p.1 q.1 xs (by rw [ha.len p hp, g1]) (by rw [hx, ha.len p hp]) (ha.pos p hp) g2, Int.mul_add]
      congr 1
      rw [Int.mul_assoc, Int.mul_assoc, Int.mul_left_comm q.2]
  have main : ∀ l : AL, (∀ p ∈ l, p ∈ a) → evL (l.flatMap (rowT b)) xs = evL l xs * evL b xs := by
    intro l
    induction l with
    | nil => intro _; simp [evL]
    | cons p l ih =>
      intro h
      rw [List.flatMap_cons, evL_app, ih fun q hq => h q (by simp [hq]), hrow p (h p (by simp)), evL_cons, Int.add_mul]
  exact main a fun p h => h
/-- a letter sum as data -/
def smF (al : AL) : D := fzD (al.map tmD)
theorem goodE_sm (al : AL) : GoodE 3 (smF al) := goodE_fz fun x hx => by
  obtain ⟨p, _, rfl⟩ := List.mem_map.mp hx
  exact (good_tm p).e
end Dn


/-! DtF: letter sums in the program: in_order, plus, turned, minus, together, heights, times. -/
namespace Dn
open PySem
theorem items_sm (al : AL) : items (smF al) = some (al.map tmD) := rfl
theorem len_sm (al : AL) : lenD [smF al] = some (.int al.length) := by
  show some (PyData.int ((al.map tmD).length : Nat)) = _
  rw [List.length_map]
theorem tupF_l (ds : List D) : tupFD [.list ds] = some (fzD ds) := rfl
theorem fz_sm (al : AL) : fzD (al.map tmD) = smF al := rfl
theorem inOrder_ok {L : Nat} {al : AL} (z : ZL L) (h : KeysL L al) (hl : (nfA al).length ≤ 600) (hl2 : al.length ≤ 100000) : d_letters_in_order [dcD al] = .ok (smF (nfA al)) [dcD al] := by
  unfold d_letters_in_order b_letters_in_order
  rw [runD_ap rfl]
  simp only [dnA, List.getElem?_cons_zero, List.getElem?_cons_succ, List.set_cons_zero, List.set_cons_succ, if_true, Bool.false_eq_true, if_false, ↓reduceIte, decide_true, decide_false, decide_eq_true_eq, Option.elim_some, Option.map_some, String.reduceBEq, Bool.or_false, Bool.false_or, Bool.or_true, Bool.true_or, Bool.not_true, Bool.not_false, ne_eq, not_true_eq_false, not_false_eq_true, List.cons_append, List.nil_append, List.replicate, append_ap, objD_dc, h.srt]
  rw [terms_ok z h hl2 rfl]
  rotate_left
  · intro k hk
    simp only [dnA, List.getElem?_cons_zero, List.getElem?_cons_succ, List.set_cons_zero, List.set_cons_succ, if_true, Bool.false_eq_true, if_false, ↓reduceIte, decide_true, decide_false, decide_eq_true_eq, Option.elim_some, Option.map_some, String.reduceBEq, Bool.or_false, Bool.false_or, Bool.or_true, Bool.true_or, Bool.not_true, Bool.not_false, ne_eq, not_true_eq_false, not_false_eq_true, List.cons_append, List.nil_append, List.replicate, append_ap, objD_dc, tix_ok (z.k (h.len k hk)) hk]
  · intro k hk
    simp only [dnA, List.getElem?_cons_zero, List.getElem?_cons_succ, List.set_cons_zero, List.set_cons_succ, if_true, Bool.false_eq_true, if_false, ↓reduceIte, decide_true, decide_false, decide_eq_true_eq, Option.elim_some, Option.map_some, String.reduceBEq, Bool.or_false, Bool.false_or, Bool.or_true, Bool.true_or, Bool.not_true, Bool.not_false, ne_eq, not_true_eq_false, not_false_eq_true, List.cons_append, List.nil_append, List.replicate, append_ap, objD_dc, tix_ok (z.k (h.len k hk)) hk]
    rfl
  have h6 : ¬ ((600 : Int) < (((nfA al).map tmD).length : Nat)) := by rw [List.length_map]; omega
  simp only [dnA, List.getElem?_cons_zero, List.getElem?_cons_succ, List.set_cons_zero, List.set_cons_succ, if_true, Bool.false_eq_true, if_false, ↓reduceIte, decide_true, decide_false, decide_eq_true_eq, Option.elim_some, Option.map_some, String.reduceBEq, Bool.or_false, Bool.false_or, Bool.or_true, Bool.true_or, Bool.not_true, Bool.not_false, ne_eq, not_true_eq_false, not_false_eq_true, List.cons_append, List.nil_append, List.replicate, append_ap, k_MOST_TERMS, h6, tupF_l, fz_sm]
theorem foldl_put : ∀ (a acc : AL), (keysA (acc ++ a)).Nodup → a.foldl (fun acc p => putA acc p.1 p.2) acc = acc ++ a
  | [], acc, _ => by simp
  | p :: a, acc, h => by
    have hk : p.1 ∉ keysA acc := fun hm => by
      unfold keysA at h
      rw [List.map_append, List.map_cons] at h
      exact (List.nodup_append.mp h).2.2 p.1 hm p.1 (by simp) rfl
    have e : putA acc p.1 p.2 = acc ++ [p] := by unfold putA; rw [if_neg hk]
    rw [List.foldl_cons, e, foldl_put a (acc ++ [p]) (by rw [List.append_assoc]; exact h), List.append_assoc]
    rfl
theorem dict_ok {L : Nat} {a : AL} (z : ZL L) (h : NF L a) : dictFD zLaw [smF a] = some (dcD a) := by
  have h1 : ∀ l : AL, (∀ p ∈ l, p.1.length = L) → prsT zLaw (l.map tmD) = some (l.map enD) := by
    intro l
    induction l with
    | nil => exact fun _ => rfl
    | cons p l ih =>
      intro hl
      show (tkey zLaw (kD p.1)).bind (fun _ => (prsT zLaw (l.map tmD)).map ((kD p.1, PyData.int p.2) :: ·)) = _
      rw [tkey_k (z.k (hl p (by simp))), ih fun q hq => hl q (by simp [hq])]
      rfl
  have h2 : ∀ (l acc : AL), (l.map enD).foldl (fun a p => putL a p.1 p.2) (acc.map enD) = (l.foldl (fun acc p => putA acc p.1 p.2) acc).map enD := by
    intro l
    induction l with
    | nil => exact fun _ => rfl
    | cons p l ih =>
      intro acc
      rw [List.map_cons, List.foldl_cons, List.foldl_cons]
      show (l.map enD).foldl _ (putL (acc.map enD) (kD p.1) (.int p.2)) = _
      rw [putL_dc, ih]
  show (prsT zLaw (a.map tmD)).map (fun ps => PyData.dict ((.none, .none) :: ps.foldl (fun a p => putL a p.1 p.2) [])) = _
  rw [h1 a h.len]
  show some (PyData.dict ((.none, .none) :: (a.map enD).foldl (fun a p => putL a p.1 p.2) ([].map enD))) = _
  rw [h2, foldl_put a [] (by rw [List.nil_append]; exact h.nd), List.nil_append]
  rfl
theorem plus_ok {L : Nat} {a b : AL} (z : ZL L) (ha : NF L a) (hb : NF L b) (l1 : a.length ≤ 1000) (l2 : b.length ≤ 1000) (hl : (plusA a b).length ≤ 600) :
    d_letters_plus [smF a, smF b] = .ok (smF (plusA a b)) [] := by
  have KL : ∀ k, KeysL L (dctP a (b.take k)) := fun k => foldA_KL _ _ _ _ (fun p hp => hb.len p (List.mem_of_mem_take hp)) ha.keys
  have lenA : ∀ k, (dctP a (b.take k)).length ≤ 2000 := fun k => by
    have := foldA_len (fun p : List Int × Int => p.1) (fun p => p.2) (b.take k) a
    have h2 : (b.take k).length ≤ b.length := by rw [List.length_take]; omega
    unfold dctP
    omega
  unfold d_letters_plus b_letters_plus
  rw [runD_ap rfl]
  simp only [dnA, List.getElem?_cons_zero, List.getElem?_cons_succ, List.set_cons_zero, List.set_cons_succ, if_true, Bool.false_eq_true, if_false, ↓reduceIte, decide_true, decide_false, decide_eq_true_eq, Option.elim_some, Option.map_some, String.reduceBEq, Bool.or_false, Bool.false_or, Bool.or_true, Bool.true_or, Bool.not_true, Bool.not_false, ne_eq, not_true_eq_false, not_false_eq_true, List.cons_append, List.nil_append, List.replicate, append_ap, dict_ok z ha, forI_ap, items_sm]
  generalize hg : forN _ _ _ _ _ _ _ = g
  obtain ⟨ρ', rfl, s3, s4, h⟩ := forN_inv' hg rfl (fun k ρ => ∃ s3 s4, ρ = [.val (smF a), .val (smF b), .own true (dcD (dctP a (b.take k))), s3, s4]) ⟨_, _, rfl⟩ (fun k d ρ hd hP => by
    obtain ⟨s3, s4, rfl⟩ := hP
    rw [List.getElem?_map] at hd
    cases hkk : b[k]? with
    | none => rw [hkk] at hd; cases hd
    | some p =>
      rw [hkk] at hd
      cases hd
      have hp : p ∈ b := List.mem_of_getElem? hkk
      have e1 : b.take (k + 1) = b.take k ++ [p] := by rw [List.take_add_one, hkk]; rfl
      have e2 : dctP a (b.take (k + 1)) = putA (dctP a (b.take k)) p.1 (getA (dctP a (b.take k)) p.1 + p.2) := by
        unfold dctP
        rw [e1, foldA_snoc]
        rfl
      have hzk := z.k (hb.len p hp)
      refine ⟨_, tg_tm, [.val (smF a), .val (smF b), .own true (dcD (dctP a (b.take (k + 1)))), .val (kD p.1), .val (.int p.2)], .inl ?_, _, _, rfl⟩
      rw [e2]
      simp only [dnA, List.getElem?_cons_zero, List.getElem?_cons_succ, List.set_cons_zero, List.set_cons_succ, if_true, Bool.false_eq_true, if_false, ↓reduceIte, decide_true, decide_false, decide_eq_true_eq, Option.elim_some, Option.map_some, String.reduceBEq, Bool.or_false, Bool.false_or, Bool.or_true, Bool.true_or, Bool.not_true, Bool.not_false, ne_eq, not_true_eq_false, not_false_eq_true, List.cons_append, List.nil_append, List.replicate, append_ap, setTx, tgM, objD_dc, chkS_dc, tdict_dc, tget_ok hzk, tput_ok hzk _ (Nat.lt_of_le_of_lt (lenA k) (by decide))])
  rw [List.length_map, List.take_length] at h
  rw [h]
  have KO := KL b.length
  have LO := lenA b.length
  rw [List.take_length] at KO LO
  have ho := inOrder_ok z KO hl (Nat.le_trans LO (by decide))
  have harg : ∀ (s0 s1 : Slot) (ρ : Env), argDs (s0 :: s1 :: .own true (dcD (dctP a b)) :: ρ) [true] [.bor 2] = some [dcD (dctP a b)] := fun _ _ _ => rfl
  simp only [dnA, List.getElem?_cons_zero, List.getElem?_cons_succ, List.set_cons_zero, List.set_cons_succ, if_true, Bool.false_eq_true, if_false, ↓reduceIte, decide_true, decide_false, decide_eq_true_eq, Option.elim_some, Option.map_some, String.reduceBEq, Bool.or_false, Bool.false_or, Bool.or_true, Bool.true_or, Bool.not_true, Bool.not_false, ne_eq, not_true_eq_false, not_false_eq_true, List.cons_append, List.nil_append, List.replicate, append_ap, dcA, Option.bind_some, List.all_cons, List.all_nil, List.length_cons, List.length_nil, List.isEmpty_nil, List.isEmpty_cons, List.contains_cons, List.contains_nil, Nat.reduceBEq, Nat.reduceAdd, Nat.reduceLeDiff, Bool.and_true, Bool.true_and, objD_dc, harg, ho]
  rfl
theorem turned_ok (a : AL) (hl : a.length ≤ 100000) : d_letters_turned [smF a] = .ok (smF (negA a)) [] := by
  unfold d_letters_turned b_letters_turned
  rw [runD_ap rfl]
  simp only [dnA, List.getElem?_cons_zero, List.getElem?_cons_succ, List.set_cons_zero, List.set_cons_succ, if_true, Bool.false_eq_true, if_false, ↓reduceIte, decide_true, decide_false, decide_eq_true_eq, Option.elim_some, Option.map_some, String.reduceBEq, Bool.or_false, Bool.false_or, Bool.or_true, Bool.true_or, Bool.not_true, Bool.not_false, ne_eq, not_true_eq_false, not_false_eq_true, List.cons_append, List.nil_append, List.replicate, append_ap, items_sm]
  rw [lcO_over a tmD (fun p => tmD (p.1, 0 - p.2)) (fun _ => true), filter_all]
  rotate_left
  · exact fun p _ => ⟨_, tg_tm, rfl, rfl, fun _ => by simp only [dnA, List.getElem?_cons_zero, List.getElem?_cons_succ, List.set_cons_zero, List.set_cons_succ, if_true, Bool.false_eq_true, if_false, ↓reduceIte, decide_true, decide_false, decide_eq_true_eq, Option.elim_some, Option.map_some, String.reduceBEq, Bool.or_false, Bool.false_or, Bool.or_true, Bool.true_or, Bool.not_true, Bool.not_false, ne_eq, not_true_eq_false, not_false_eq_true, List.cons_append, List.nil_append, List.replicate, append_ap]; rfl⟩
  · rfl
  · rfl
  · exact hl
  have e : a.map (fun p => tmD (p.1, 0 - p.2)) = (negA a).map tmD := by unfold negA; rw [List.map_map]; rfl
  rw [e]
  simp only [dnA, List.getElem?_cons_zero, List.getElem?_cons_succ, List.set_cons_zero, List.set_cons_succ, if_true, Bool.false_eq_true, if_false, ↓reduceIte, decide_true, decide_false, decide_eq_true_eq, Option.elim_some, Option.map_some, String.reduceBEq, Bool.or_false, Bool.false_or, Bool.or_true, Bool.true_or, Bool.not_true, Bool.not_false, ne_eq, not_true_eq_false, not_false_eq_true, List.cons_append, List.nil_append, List.replicate, append_ap, tupF_l, fz_sm]
theorem together_ok {a b : List Int} (hl : a.length ≤ 1000) : d_letters_together [kD a, kD b] = .ok (kD (addK a b)) [] := by
  unfold d_letters_together b_letters_together
  rw [runD_ap rfl]
  have ez : ((a.map PyData.int).zip (b.map PyData.int)).map (fun p => PyData.tuple [p.1, p.2]) = (a.zip b).map fun q => PyData.tuple [.int q.1, .int q.2] := by
    rw [List.zip_map, List.map_map]
    rfl
  simp only [dnA, List.getElem?_cons_zero, List.getElem?_cons_succ, List.set_cons_zero, List.set_cons_succ, if_true, Bool.false_eq_true, if_false, ↓reduceIte, decide_true, decide_false, decide_eq_true_eq, Option.elim_some, Option.map_some, String.reduceBEq, Bool.or_false, Bool.false_or, Bool.or_true, Bool.true_or, Bool.not_true, Bool.not_false, ne_eq, not_true_eq_false, not_false_eq_true, List.cons_append, List.nil_append, List.replicate, append_ap, zipM, zipL, kD, ez]
  rw [lcO_over (a.zip b) (fun q => PyData.tuple [.int q.1, .int q.2]) (fun q => PyData.int (q.1 + q.2)) (fun _ => true), filter_all]
  rotate_left
  · exact fun q _ => ⟨_, rfl, rfl, rfl, fun _ => by simp only [dnA, List.getElem?_cons_zero, List.getElem?_cons_succ, List.set_cons_zero, List.set_cons_succ, if_true, Bool.false_eq_true, if_false, ↓reduceIte, decide_true, decide_false, decide_eq_true_eq, Option.elim_some, Option.map_some, String.reduceBEq, Bool.or_false, Bool.false_or, Bool.or_true, Bool.true_or, Bool.not_true, Bool.not_false, ne_eq, not_true_eq_false, not_false_eq_true, List.cons_append, List.nil_append, List.replicate, append_ap]⟩
  · rfl
  · rfl
  · rw [List.length_zip]; omega
  have e : (a.zip b).map (fun q => PyData.int (q.1 + q.2)) = (addK a b).map PyData.int := by unfold addK; rw [List.map_map]; rfl
  rw [e]
  simp only [dnA, List.getElem?_cons_zero, List.getElem?_cons_succ, List.set_cons_zero, List.set_cons_succ, if_true, Bool.false_eq_true, if_false, ↓reduceIte, decide_true, decide_false, decide_eq_true_eq, Option.elim_some, Option.map_some, String.reduceBEq, Bool.or_false, Bool.false_or, Bool.or_true, Bool.true_or, Bool.not_true, Bool.not_false, ne_eq, not_true_eq_false, not_false_eq_true, List.cons_append, List.nil_append, List.replicate, append_ap]
theorem heights_ok {L d : Nat} {o : AL} (hL : L ≤ 1000) (hk : ∀ p ∈ o, p.1.length = L) (hp : ∀ p ∈ o, ∀ x ∈ p.1, 0 ≤ x ∧ x ≤ (d : Int)) :
    ∃ hs : List Int, hs.length ≤ L ∧ (∀ x ∈ hs, 0 ≤ x ∧ x ≤ (d : Int)) ∧ d_letters_heights [smF o] = .ok (.list (hs.map PyData.int)) [] := by
  unfold d_letters_heights b_letters_heights
  rw [runD_ap rfl]
  simp only [dnA, List.getElem?_cons_zero, List.getElem?_cons_succ, List.set_cons_zero, List.set_cons_succ, if_true, Bool.false_eq_true, if_false, ↓reduceIte, decide_true, decide_false, decide_eq_true_eq, Option.elim_some, Option.map_some, String.reduceBEq, Bool.or_false, Bool.false_or, Bool.or_true, Bool.true_or, Bool.not_true, Bool.not_false, ne_eq, not_true_eq_false, not_false_eq_true, List.cons_append, List.nil_append, List.replicate, append_ap, forI_ap, items_sm]
  generalize hg : forN _ _ _ _ _ _ _ = g
  obtain ⟨ρ', rfl, hs, s2, s3, h1, h2, h⟩ := forN_inv' hg rfl (fun k ρ => ∃ (hs : List Int) (s2 s3 : Slot), hs.length ≤ L ∧ (∀ x ∈ hs, 0 ≤ x ∧ x ≤ (d : Int)) ∧ ρ = [.val (smF o), .val (.list (hs.map PyData.int)), s2, s3, .un, .un]) ⟨[], _, _, Nat.zero_le _, fun x h => (by cases h), rfl⟩ (fun k dd ρ hd hP => by
    obtain ⟨hs, s2, s3, h1, h2, rfl⟩ := hP
    rw [List.getElem?_map] at hd
    cases hkk : o[k]? with
    | none => rw [hkk] at hd; cases hd
    | some p =>
      rw [hkk] at hd
      cases hd
      have hpm : p ∈ o := List.mem_of_getElem? hkk
      have step : ∀ hs : List Int, hs.length ≤ L → (∀ x ∈ hs, 0 ≤ x ∧ x ≤ (d : Int)) → ∃ hs' : List Int, hs'.length ≤ L ∧ (∀ x ∈ hs', 0 ≤ x ∧ x ≤ (d : Int)) ∧
          setV 1 (lcI (zipM (v 2) (v 1)) (.tp [4, 5]) [4, 5] (yes) (eN max2D [v 4, v 5])) [.val (smF o), .val (.list (hs.map PyData.int)), .val (kD p.1), .val (.int p.2), .un, .un] = .next [.val (smF o), .val (.list (hs'.map PyData.int)), .val (kD p.1), .val (.int p.2), .un, .un] := by
        intro hs h1 h2
        have ez : ((p.1.map PyData.int).zip (hs.map PyData.int)).map (fun p => PyData.tuple [p.1, p.2]) = (p.1.zip hs).map fun q => PyData.tuple [.int q.1, .int q.2] := by
          rw [List.zip_map, List.map_map]
          rfl
        refine ⟨(p.1.zip hs).map fun q => if q.2 > q.1 then q.2 else q.1, by rw [List.length_map, List.length_zip]; omega, fun x hx => ?_, ?_⟩
        · obtain ⟨q, hq, rfl⟩ := List.mem_map.mp hx
          have a1 := hp p hpm q.1 (List.of_mem_zip hq).1
          have a2 := h2 q.2 (List.of_mem_zip hq).2
          show 0 ≤ (if q.2 > q.1 then q.2 else q.1) ∧ (if q.2 > q.1 then q.2 else q.1) ≤ (d : Int)
          split <;> omega
        · simp only [dnA, List.getElem?_cons_zero, List.getElem?_cons_succ, List.set_cons_zero, List.set_cons_succ, if_true, Bool.false_eq_true, if_false, ↓reduceIte, decide_true, decide_false, decide_eq_true_eq, Option.elim_some, Option.map_some, String.reduceBEq, Bool.or_false, Bool.false_or, Bool.or_true, Bool.true_or, Bool.not_true, Bool.not_false, ne_eq, not_true_eq_false, not_false_eq_true, List.cons_append, List.nil_append, List.replicate, append_ap, zipM, zipL, kD, ez]
          rw [lcO_over (p.1.zip hs) (fun q => PyData.tuple [.int q.1, .int q.2]) (fun q => PyData.int (if q.2 > q.1 then q.2 else q.1)) (fun _ => true), filter_all]
          rotate_left
          · refine fun q _ => ⟨_, rfl, rfl, rfl, fun _ => ?_⟩
            show _ = _
            simp only [dnA, List.getElem?_cons_zero, List.getElem?_cons_succ, List.set_cons_zero, List.set_cons_succ, if_true, Bool.false_eq_true, if_false, ↓reduceIte, decide_true, decide_false, decide_eq_true_eq, Option.elim_some, Option.map_some, String.reduceBEq, Bool.or_false, Bool.false_or, Bool.or_true, Bool.true_or, Bool.not_true, Bool.not_false, ne_eq, not_true_eq_false, not_false_eq_true, List.cons_append, List.nil_append, List.replicate, show max2D [PyData.int q.1, PyData.int q.2] = some (PyData.int (if q.2 > q.1 then q.2 else q.1)) from rfl]
          · rfl
          · rfl
          · rw [List.length_zip]; omega
          simp only [dnA, List.getElem?_cons_zero, List.getElem?_cons_succ, List.set_cons_zero, List.set_cons_succ, if_true, Bool.false_eq_true, if_false, ↓reduceIte, decide_true, decide_false, decide_eq_true_eq, Option.elim_some, Option.map_some, String.reduceBEq, Bool.or_false, Bool.false_or, Bool.or_true, Bool.true_or, Bool.not_true, Bool.not_false, ne_eq, not_true_eq_false, not_false_eq_true, List.cons_append, List.nil_append, List.replicate, append_ap, List.map_map]
          rfl
      refine ⟨_, tg_tm, ?_⟩
      cases hs with
      | nil =>
        obtain ⟨hs', g1, g2, g3⟩ := step p.1 (by rw [hk p hpm]; omega) (hp p hpm)
        refine ⟨[.val (smF o), .val (.list (hs'.map PyData.int)), .val (kD p.1), .val (.int p.2), .un, .un], .inl ?_, hs', _, _, g1, g2, rfl⟩
        rw [seq_ap]
        simp only [dnA, List.getElem?_cons_zero, List.getElem?_cons_succ, List.set_cons_zero, List.set_cons_succ, if_true, Bool.false_eq_true, if_false, ↓reduceIte, decide_true, decide_false, decide_eq_true_eq, Option.elim_some, Option.map_some, String.reduceBEq, Bool.or_false, Bool.false_or, Bool.or_true, Bool.true_or, Bool.not_true, Bool.not_false, ne_eq, not_true_eq_false, not_false_eq_true, List.cons_append, List.nil_append, List.replicate, List.map_nil, List.length_nil, Int.natCast_zero, kD]
        exact g3
      | cons x hs =>
        obtain ⟨hs', g1, g2, g3⟩ := step (x :: hs) h1 h2
        refine ⟨[.val (smF o), .val (.list (hs'.map PyData.int)), .val (kD p.1), .val (.int p.2), .un, .un], .inl ?_, hs', _, _, g1, g2, rfl⟩
        have hne : eqD (.int (((x :: hs).map PyData.int).length : Nat)) (.int 0) = some (.bool false) := by
          rw [eqD_int, decide_eq_false (by simp; omega)]
        rw [seq_ap]
        simp only [dnA, List.getElem?_cons_zero, List.getElem?_cons_succ, List.set_cons_zero, List.set_cons_succ, if_true, Bool.false_eq_true, if_false, ↓reduceIte, decide_true, decide_false, decide_eq_true_eq, Option.elim_some, Option.map_some, String.reduceBEq, Bool.or_false, Bool.false_or, Bool.or_true, Bool.true_or, Bool.not_true, Bool.not_false, ne_eq, not_true_eq_false, not_false_eq_true, List.cons_append, List.nil_append, List.replicate, hne]
        exact g3)
  refine ⟨hs, h1, h2, ?_⟩
  rw [h]
  simp only [dnA, List.getElem?_cons_zero, List.getElem?_cons_succ, List.set_cons_zero, List.set_cons_succ, if_true, Bool.false_eq_true, if_false, ↓reduceIte, decide_true, decide_false, decide_eq_true_eq, Option.elim_some, Option.map_some, String.reduceBEq, Bool.or_false, Bool.false_or, Bool.or_true, Bool.true_or, Bool.not_true, Bool.not_false, ne_eq, not_true_eq_false, not_false_eq_true, List.cons_append, List.nil_append, List.replicate, append_ap]
theorem max0_le {ns : List Int} {B : Int} (h : ∀ x ∈ ns, x ≤ B) (h0 : 0 ≤ B) : ∃ M, max0D [.list (ns.map PyData.int)] = some (.int M) ∧ M ≤ B := by
  cases ns with
  | nil => exact ⟨0, rfl, h0⟩
  | cons x ns =>
    refine ⟨maxL ns x, ?_, ?_⟩
    · show (match allInts ((x :: ns).map PyData.int) with
        | some (x :: xs) => some (PyData.int (maxL xs x))
        | some [] => some (PyData.int 0)
        | none => none) = _
      rw [allInts_mk]
    · obtain ⟨h1, _, _⟩ := maxL_mem ns x
      rcases h1 with e | e
      · rw [e]; exact h x (by simp)
      · exact h _ (by simp [e])
theorem times_ok {L d1 d2 : Nat} {a b : AL} (z : ZL L) (hL : L ≤ 1000) (ha : NF L a) (hb : NF L b) (g1 : ∀ p ∈ a, ∀ x ∈ p.1, x ≤ (d1 : Int)) (g2 : ∀ p ∈ b, ∀ x ∈ p.1, x ≤ (d2 : Int)) (hd : d1 + d2 ≤ 60) (l1 : a.length ≤ 1000) (l2 : b.length ≤ 1000)
    (hp : a.length * b.length ≤ 20000) (c1 : ∀ p ∈ a, lg p.2 ≤ 10000000) (c2 : ∀ p ∈ b, lg p.2 ≤ 10000000) (hl : (timesA a b).length ≤ 600) : d_letters_times [smF a, smF b] = .ok (smF (timesA a b)) [] := by
  have KL : ∀ l : AL, (∀ p ∈ l, p ∈ prdT a b) → KeysL L (mkA l) := fun l hl => mk_KL fun r hr => by
    obtain ⟨p, hp, q, hq, rfl⟩ := prdT_mem (hl r hr)
    exact addK_len (ha.len p hp) (hb.len q hq)
  unfold d_letters_times b_letters_times
  rw [runD_ap rfl]
  have lgn : ∀ n : Nat, n ≤ 1000 → lg (n : Int) ≤ 60000000 := fun n h => Nat.le_trans (lg_lt (k := 20) (by omega)) (by decide)
  have hm : mulD (.int (a.length : Nat)) (.int (b.length : Nat)) = some (.int ((a.length : Int) * (b.length : Int))) := mulB _ _ (lgn _ l1) (lgn _ l2)
  have hn1 : ¬ ((20000 : Int) < (a.length : Int) * (b.length : Int)) := by
    have : ((a.length * b.length : Nat) : Int) ≤ 20000 := by omega
    rw [Int.natCast_mul] at this
    omega
  obtain ⟨hs1, hh1, hh2, hh3⟩ := heights_ok (d := d1) hL ha.len (fun p hp x hx => ⟨ha.pos p hp x hx, g1 p hp x hx⟩)
  obtain ⟨hs2, hk1, hk2, hk3⟩ := heights_ok (d := d2) hL hb.len (fun p hp x hx => ⟨hb.pos p hp x hx, g2 p hp x hx⟩)
  have ez : ((hs1.map PyData.int).zip (hs2.map PyData.int)).map (fun p => PyData.tuple [p.1, p.2]) = (hs1.zip hs2).map fun q => PyData.tuple [.int q.1, .int q.2] := by
    rw [List.zip_map, List.map_map]
    rfl
  simp only [dnA, List.getElem?_cons_zero, List.getElem?_cons_succ, List.set_cons_zero, List.set_cons_succ, if_true, Bool.false_eq_true, if_false, ↓reduceIte, decide_true, decide_false, decide_eq_true_eq, Option.elim_some, Option.map_some, String.reduceBEq, Bool.or_false, Bool.false_or, Bool.or_true, Bool.true_or, Bool.not_true, Bool.not_false, ne_eq, not_true_eq_false, not_false_eq_true, List.cons_append, List.nil_append, List.replicate, append_ap, len_sm, hm, k_MOST_PAIRS, hn1, call_v1 hh3, call_v1 hk3, zipM, zipL, ez]
  rw [lcO_over (hs1.zip hs2) (fun q => PyData.tuple [.int q.1, .int q.2]) (fun q => PyData.int (q.1 + q.2)) (fun _ => true), filter_all]
  rotate_left
  · exact fun q _ => ⟨_, rfl, rfl, rfl, fun _ => by simp only [dnA, List.getElem?_cons_zero, List.getElem?_cons_succ, List.set_cons_zero, List.set_cons_succ, if_true, Bool.false_eq_true, if_false, ↓reduceIte, decide_true, decide_false, decide_eq_true_eq, Option.elim_some, Option.map_some, String.reduceBEq, Bool.or_false, Bool.false_or, Bool.or_true, Bool.true_or, Bool.not_true, Bool.not_false, ne_eq, not_true_eq_false, not_false_eq_true, List.cons_append, List.nil_append, List.replicate, append_ap]⟩
  · rfl
  · rfl
  · rw [List.length_zip]; omega
  obtain ⟨M, hM, hM2⟩ := max0_le (ns := (hs1.zip hs2).map fun q => q.1 + q.2) (B := 60) (fun x hx => by
    obtain ⟨q, hq, rfl⟩ := List.mem_map.mp hx
    have := hh2 q.1 (List.of_mem_zip hq).1
    have := hk2 q.2 (List.of_mem_zip hq).2
    show q.1 + q.2 ≤ 60
    omega) (by decide)
  have eM : ((hs1.zip hs2).map fun q => q.1 + q.2).map PyData.int = (hs1.zip hs2).map fun q => PyData.int (q.1 + q.2) := by rw [List.map_map]; rfl
  rw [eM] at hM
  have hn2 : ¬ ((60 : Int) < M) := by omega
  simp only [dnA, List.getElem?_cons_zero, List.getElem?_cons_succ, List.set_cons_zero, List.set_cons_succ, if_true, Bool.false_eq_true, if_false, ↓reduceIte, decide_true, decide_false, decide_eq_true_eq, Option.elim_some, Option.map_some, String.reduceBEq, Bool.or_false, Bool.false_or, Bool.or_true, Bool.true_or, Bool.not_true, Bool.not_false, ne_eq, not_true_eq_false, not_false_eq_true, List.cons_append, List.nil_append, List.replicate, append_ap, hM, k_MOST_POWER, hn2, newT, forI_ap, items_sm]
  generalize hg : forN _ _ _ _ _ _ _ = g
  have tk : ∀ k, (∀ p ∈ prdT (a.take k) b, p ∈ prdT a b) := fun k r hr => by
    obtain ⟨p, hp, h⟩ := List.mem_flatMap.mp hr
    exact List.mem_flatMap.mpr ⟨p, List.mem_of_mem_take hp, h⟩
  have lenA : ∀ l : AL, l.length ≤ 900000 → (mkA l).length < 1000000 := fun l h => by
    have := foldA_len (fun p : List Int × Int => p.1) (fun p => p.2) l []
    have this : (mkA l).length ≤ 0 + l.length := this
    omega
  obtain ⟨ρ', rfl, s3, s4, s5, s6, s7, h⟩ := forN_inv' hg rfl (fun k ρ => ∃ s3 s4 s5 s6 s7, ρ = [.val (smF a), .val (smF b), .own true (dcD (mkA (prdT (a.take k) b))), s3, s4, s5, s6, s7, .un, .un]) ⟨_, _, _, _, _, rfl⟩ (fun k d ρ hd hP => by
    obtain ⟨s3, s4, s5, s6, s7, rfl⟩ := hP
    rw [List.getElem?_map] at hd
    cases hkk : a[k]? with
    | none => rw [hkk] at hd; cases hd
    | some p =>
      rw [hkk] at hd
      cases hd
      have hpm : p ∈ a := List.mem_of_getElem? hkk
      have hkl : k < a.length := (List.getElem?_eq_some_iff.mp hkk).1
      have e1 : a.take (k + 1) = a.take k ++ [p] := by rw [List.take_add_one, hkk]; rfl
      have e0 : ∀ j, mkA (prdT (a.take k) b ++ rowT (b.take j) p) = mkA (prdT (a.take k) b ++ rowT (b.take j) p) := fun _ => rfl
      have eEnd : prdT (a.take (k + 1)) b = prdT (a.take k) b ++ rowT b p := by
        unfold prdT
        rw [e1, List.flatMap_append]
        simp
      have sub : ∀ j, ∀ r ∈ prdT (a.take k) b ++ rowT (b.take j) p, r ∈ prdT a b := fun j r hr => by
        rcases List.mem_append.mp hr with h | h
        · exact tk k r h
        · obtain ⟨q, hq, e⟩ := List.mem_map.mp h
          exact List.mem_flatMap.mpr ⟨p, hpm, List.mem_map.mpr ⟨q, List.mem_of_mem_take hq, e⟩⟩
      refine ⟨_, tg_tm, ?_⟩
      simp only [dnA, List.getElem?_cons_zero, List.getElem?_cons_succ, List.set_cons_zero, List.set_cons_succ, if_true, Bool.false_eq_true, if_false, ↓reduceIte, decide_true, decide_false, decide_eq_true_eq, Option.elim_some, Option.map_some, String.reduceBEq, Bool.or_false, Bool.false_or, Bool.or_true, Bool.true_or, Bool.not_true, Bool.not_false, ne_eq, not_true_eq_false, not_false_eq_true, List.cons_append, List.nil_append, List.replicate, append_ap, forI_ap, items_sm]
      generalize hg2 : forN _ _ _ _ _ _ _ = g2
      obtain ⟨ρ2, rfl, t5, t6, t7, h2⟩ := forN_inv' hg2 rfl (fun j ρ => ∃ t5 t6 t7, ρ = [.val (smF a), .val (smF b), .own true (dcD (mkA (prdT (a.take k) b ++ rowT (b.take j) p))), .val (kD p.1), .val (.int p.2), t5, t6, t7, .un, .un]) ⟨s5, s6, s7, by rw [show rowT (b.take 0) p = [] from rfl, List.append_nil]⟩ (fun j d ρ hd hP => by
        obtain ⟨t5, t6, t7, rfl⟩ := hP
        rw [List.getElem?_map] at hd
        cases hjj : b[j]? with
        | none => rw [hjj] at hd; cases hd
        | some q =>
          rw [hjj] at hd
          cases hd
          have hqm : q ∈ b := List.mem_of_getElem? hjj
          have hjl : j < b.length := (List.getElem?_eq_some_iff.mp hjj).1
          have e2 : rowT (b.take (j + 1)) p = rowT (b.take j) p ++ [(addK p.1 q.1, p.2 * q.2)] := by
            unfold rowT
            rw [List.take_add_one, hjj, List.map_append]
            rfl
          have e3 : mkA (prdT (a.take k) b ++ rowT (b.take (j + 1)) p) = putA (mkA (prdT (a.take k) b ++ rowT (b.take j) p)) (addK p.1 q.1) (getA (mkA (prdT (a.take k) b ++ rowT (b.take j) p)) (addK p.1 q.1) + p.2 * q.2) := by
            rw [e2, ← List.append_assoc]
            unfold mkA
            rw [foldA_snoc]
            rfl
          have hlen : (prdT (a.take k) b ++ rowT (b.take j) p).length ≤ 900000 := by
            rw [List.length_append, prdT_len, List.length_take]
            have g3 : (rowT (b.take j) p).length ≤ 1000 := by unfold rowT; rw [List.length_map, List.length_take]; omega
            have g4 : min k a.length * b.length ≤ a.length * b.length := Nat.mul_le_mul_right _ (Nat.min_le_right _ _)
            omega
          have hzk := z.k (addK_len (ha.len p hpm) (hb.len q hqm))
          have hmul : mulD (.int p.2) (.int q.2) = some (.int (p.2 * q.2)) := mulB _ _ (Nat.le_trans (c1 p hpm) (by decide)) (Nat.le_trans (c2 q hqm) (by decide))
          refine ⟨_, tg_tm, [.val (smF a), .val (smF b), .own true (dcD (mkA (prdT (a.take k) b ++ rowT (b.take (j + 1)) p))), .val (kD p.1), .val (.int p.2), .val (kD q.1), .val (.int q.2), .val (kD (addK p.1 q.1)), .un, .un], .inl ?_, _, _, _, rfl⟩
          rw [e3]
          simp only [dnA, List.getElem?_cons_zero, List.getElem?_cons_succ, List.set_cons_zero, List.set_cons_succ, if_true, Bool.false_eq_true, if_false, ↓reduceIte, decide_true, decide_false, decide_eq_true_eq, Option.elim_some, Option.map_some, String.reduceBEq, Bool.or_false, Bool.false_or, Bool.or_true, Bool.true_or, Bool.not_true, Bool.not_false, ne_eq, not_true_eq_false, not_false_eq_true, List.cons_append, List.nil_append, List.replicate, append_ap, call_v2 (together_ok (a := p.1) (b := q.1) (by rw [ha.len p hpm]; exact hL)), setTx, tgM, objD_dc, chkS_dc, tdict_dc, tget_ok hzk, hmul, tput_ok hzk _ (lenA _ hlen)])
      rw [List.length_map, List.take_length] at h2
      subst h2
      rw [eEnd]
      exact ⟨_, .inl rfl, _, _, _, _, _, rfl⟩)
  rw [List.length_map, List.take_length] at h
  rw [h]
  have KO : KeysL L (mkA (prdT a b)) := KL _ fun _ h => h
  have LO : (mkA (prdT a b)).length ≤ 100000 := by
    have := foldA_len (fun p : List Int × Int => p.1) (fun p => p.2) (prdT a b) []
    rw [prdT_len] at this
    have this : (mkA (prdT a b)).length ≤ 0 + a.length * b.length := this
    omega
  have ho := inOrder_ok z KO hl LO
  have harg : ∀ (s0 s1 : Slot) (ρ : Env), argDs (s0 :: s1 :: .own true (dcD (mkA (prdT a b))) :: ρ) [true] [.bor 2] = some [dcD (mkA (prdT a b))] := fun _ _ _ => rfl
  simp only [dnA, List.getElem?_cons_zero, List.getElem?_cons_succ, List.set_cons_zero, List.set_cons_succ, if_true, Bool.false_eq_true, if_false, ↓reduceIte, decide_true, decide_false, decide_eq_true_eq, Option.elim_some, Option.map_some, String.reduceBEq, Bool.or_false, Bool.false_or, Bool.or_true, Bool.true_or, Bool.not_true, Bool.not_false, ne_eq, not_true_eq_false, not_false_eq_true, List.cons_append, List.nil_append, List.replicate, append_ap, dcA, Option.bind_some, List.all_cons, List.all_nil, List.length_cons, List.length_nil, List.isEmpty_nil, List.isEmpty_cons, List.contains_cons, List.contains_nil, Nat.reduceBEq, Nat.reduceAdd, Nat.reduceLeDiff, Bool.and_true, Bool.true_and, objD_dc, harg, ho]
  rfl
end Dn


/-! DtR: how a law lays a drawing's row. -/
namespace Dn
open PySem
theorem asks_ok (w : Wd) : d_law_law_asks [sS w.s] = .ok (.list (w.asks.map fun x => sS x.s)) [] := by
  unfold d_law_law_asks b_law_law_asks
  rw [runD_ap rfl]
  cases w <;> (simp only [Wd.s, Wd.asks, List.map_cons, List.map_nil, Sr.s]; simp only [dnA, List.getElem?_cons_zero, List.getElem?_cons_succ, List.set_cons_zero, List.set_cons_succ, if_true, Bool.false_eq_true, if_false, ↓reduceIte, decide_true, decide_false, decide_eq_true_eq, Option.elim_some, Option.map_some, String.reduceBEq, Bool.or_false, Bool.false_or, Bool.or_true, Bool.true_or, Bool.not_true, Bool.not_false, ne_eq, not_true_eq_false, not_false_eq_true, List.cons_append, List.nil_append, List.replicate, append_ap, dputD, isKey, noMark, List.map_cons, List.map_nil, List.zip_cons_cons, List.zip_nil_left, List.length_cons, List.length_nil, putL, List.any_cons, List.any_nil, PyData.eqv, dixD, lookD, lookS, List.find?_cons, List.find?_nil, Bool.and_true, Nat.reduceAdd, Nat.reduceLT])
theorem sort_ok (w : Wd) (args : List D) : d_law_law_sort [.tuple (sS w.s :: args)] = .ok (sS w.sr.s) [] := by
  unfold d_law_law_sort b_law_law_sort
  rw [runD_ap rfl]
  cases w <;> (simp only [Wd.s, Wd.sr, Sr.s]; simp only [dnA, List.getElem?_cons_zero, List.getElem?_cons_succ, List.set_cons_zero, List.set_cons_succ, if_true, Bool.false_eq_true, if_false, ↓reduceIte, decide_true, decide_false, decide_eq_true_eq, Option.elim_some, Option.map_some, String.reduceBEq, Bool.or_false, Bool.false_or, Bool.or_true, Bool.true_or, Bool.not_true, Bool.not_false, ne_eq, not_true_eq_false, not_false_eq_true, List.cons_append, List.nil_append, List.replicate, append_ap, dputD, isKey, noMark, List.map_cons, List.map_nil, List.zip_cons_cons, List.zip_nil_left, List.length_cons, List.length_nil, putL, List.any_cons, List.any_nil, PyData.eqv, dixD, lookD, lookS, List.find?_cons, List.find?_nil, Bool.and_true, Nat.reduceAdd, Nat.reduceLT])
theorem pick_ok {rs : List Rw} {x : Sr} {a b : Int} (hx : hasS rs x) (hl : rs.length ≤ 1000) (B : BagOk a b) :
    ∃ (a' b' : Int) (k : Nat) (r : Rw), BagOk a' b' ∧ rs[k]? = some r ∧ r.1.sr = x ∧ d_law_law_pick [.list [.int a, .int b], rowsD rs, sS x.s] = .ok (.int k) [.list [.int a', .int b']] := by
  -- the numbers of the rows of that sort
  let p : Nat → Bool := fun k => match rs[k]? with
    | some r => decide (r.1.sr = x)
    | none => false
  let ns : List Nat := (List.range rs.length).filter p
  have hns : 0 < ns.length := by
    obtain ⟨r, hr, e⟩ := hx
    obtain ⟨k, hk⟩ := List.getElem?_of_mem hr
    refine List.length_pos_of_mem (a := k) (List.mem_filter.mpr ⟨by simpa using (List.getElem?_eq_some_iff.mp hk).1, ?_⟩)
    show (match rs[k]? with | some r => decide (r.1.sr = x) | none => false) = true
    rw [hk]
    exact decide_eq_true e
  have hn2 : ns.length ≤ 1000 := Nat.le_trans (List.length_filter_le _ _) (by simpa using hl)
  have m0 : (0 : Int) < (ns.length : Nat) := by omega
  have d1 := draw_ok B m0 (by omega)
  obtain ⟨r1, r2⟩ := drawR_lt (a := a) (b := b) m0
  obtain ⟨j, y, ej, hy, hat⟩ := pick_at (ns.map fun k => PyData.int (k : Nat)) r1 (by simpa using r2)
  rw [List.getElem?_map] at hy
  cases hk : ns[j]? with
  | none => rw [hk] at hy; cases hy
  | some k =>
    rw [hk] at hy
    cases hy
    have hmem := List.mem_filter.mp (List.mem_of_getElem? hk)
    have hp : p k = true := hmem.2
    cases hr : rs[k]? with
    | none => simp only [p, hr] at hp; cases hp
    | some r =>
      simp only [p, hr] at hp
      refine ⟨_, _, k, r, drawOk B m0, hr, of_decide_eq_true hp, ?_⟩
      unfold d_law_law_pick b_law_law_pick rowsD
      rw [runD_ap rfl]
      simp only [dnA, List.getElem?_cons_zero, List.getElem?_cons_succ, List.set_cons_zero, List.set_cons_succ, if_true, Bool.false_eq_true, if_false, ↓reduceIte, decide_true, decide_false, decide_eq_true_eq, Option.elim_some, Option.map_some, String.reduceBEq, Bool.or_false, Bool.false_or, Bool.or_true, Bool.true_or, Bool.not_true, Bool.not_false, ne_eq, not_true_eq_false, not_false_eq_true, List.cons_append, List.nil_append, List.replicate, append_ap, range1_int (i := ((rs.map rowD).length : Int)) (by omega) (by simp; omega)]
      rw [rangeL_nat, lcO_map (fun d => d) (intP p)]
      · rw [List.map_id', filter_ints, List.length_map, show List.filter p (List.range rs.length) = ns from rfl]
        simp only [dnA, List.getElem?_cons_zero, List.getElem?_cons_succ, List.set_cons_zero, List.set_cons_succ, if_true, Bool.false_eq_true, if_false, ↓reduceIte, decide_true, decide_false, decide_eq_true_eq, Option.elim_some, Option.map_some, String.reduceBEq, Bool.or_false, Bool.false_or, Bool.or_true, Bool.true_or, Bool.not_true, Bool.not_false, ne_eq, not_true_eq_false, not_false_eq_true, List.cons_append, List.nil_append, List.replicate, append_ap, List.length_map, call_m10 d1, hat]
      · intro d hd
        obtain ⟨i, hi, rfl⟩ := List.mem_map.mp hd
        have hi : i < rs.length := by simpa using hi
        refine ⟨_, rfl, ?_, rfl, fun _ => by simp only [dnA, List.getElem?_cons_zero, List.getElem?_cons_succ, List.set_cons_zero, List.set_cons_succ, if_true, Bool.false_eq_true, if_false, ↓reduceIte, decide_true, decide_false, decide_eq_true_eq, Option.elim_some, Option.map_some, String.reduceBEq, Bool.or_false, Bool.false_or, Bool.or_true, Bool.true_or, Bool.not_true, Bool.not_false, ne_eq, not_true_eq_false, not_false_eq_true, List.cons_append, List.nil_append, List.replicate, append_ap]⟩
        have hri : rs[i]? = some rs[i] := List.getElem?_eq_getElem hi
        simp only [dnA, List.getElem?_cons_zero, List.getElem?_cons_succ, List.set_cons_zero, List.set_cons_succ, if_true, Bool.false_eq_true, if_false, ↓reduceIte, decide_true, decide_false, decide_eq_true_eq, Option.elim_some, Option.map_some, String.reduceBEq, Bool.or_false, Bool.false_or, Bool.or_true, Bool.true_or, Bool.not_true, Bool.not_false, ne_eq, not_true_eq_false, not_false_eq_true, List.cons_append, List.nil_append, List.replicate, append_ap, at_nat (xs := rs.map rowD) i (by simpa using hi), List.getElem?_map, hri, rowD, call_v1 (sort_ok _ _), Sr.s_eq]
        simp [p, hri, intP]
      · rfl
      · rfl
      · simp; omega
/-- the picks of a row, one after another -/
theorem picks_ok {rs : List Rw} {xs : List Sr} {a b : Int} {ρ : Env} {j : Nat} {el : M Opd} (hx : ∀ x ∈ xs, hasS rs x) (hl : rs.length ≤ 1000) (hxl : xs.length ≤ 1000) (B : BagOk a b) (hj : ρ[j]? = some .un) (hel : ∀ (a b : Int) (x : D), el (.own false (.list [.int a, .int b]) :: ρ.set j (.val x)) = callO d_law_law_pick [true, false, false] false [.bor 0, .val (rowsD rs), .val x] (.own false (.list [.int a, .int b]) :: ρ.set j (.val x))) :
    ∃ a' b' args, BagOk a' b' ∧ ArgsOk rs xs args ∧ lcO (ofL (xs.map fun x => sS x.s)) always (.nm (j + 1)) [j + 1] yes el (xs.map fun x => sS x.s).length (.own false (.list [.int a, .int b]) :: ρ) = .ok (.val (.list (args.map PyData.int))) (.own false (.list [.int a', .int b']) :: ρ) := by
  have back0 : ρ.set j .un = ρ := by
    apply List.ext_getElem?
    intro k
    by_cases e : j = k
    · subst e
      rw [List.getElem?_set_self (List.getElem?_eq_some_iff.mp hj).1, hj]
    · rw [List.getElem?_set_ne e]
  let P : Nat → List D → Env → Prop := fun k acc ρ1 => ∃ a b args, BagOk a b ∧ ArgsOk rs (xs.take k) args ∧ acc = args.map PyData.int ∧ ρ1 = .own false (.list [.int a, .int b]) :: ρ
  obtain ⟨out, ρ', h1, h2⟩ := lcO_st (ds := xs.map fun x => sS x.s) (t := .nm (j + 1)) (js := [j + 1]) (ts := yes) (el := el) (ρ := .own false (.list [.int a, .int b]) :: ρ) P (by simp; omega) ⟨a, b, [], B, ArgsOk.nil, rfl, by
      show (Slot.own false (.list [.int a, .int b]) :: ρ).set (j + 1) .un = _
      rw [List.set_cons_succ, back0]⟩ (fun k d acc ρ1 hd hP => by
    obtain ⟨a, b, args, B, ha, rfl, rfl⟩ := hP
    rw [List.getElem?_map] at hd
    cases hk : xs[k]? with
    | none => rw [hk] at hd; cases hd
    | some x =>
      rw [hk] at hd
      cases hd
      obtain ⟨a', b', i, r, B', hr, hrx, hc⟩ := pick_ok (hx x (List.mem_of_getElem? hk)) hl B
      refine ⟨.own false (.list [.int a, .int b]) :: ρ.set j (.val (sS x.s)), .int i, .own false (.list [.int a', .int b']) :: ρ.set j (.val (sS x.s)), rfl, rfl, ?_, ?_⟩
      · rw [hel, call_m30 hc]
      · refine ⟨a', b', args ++ [(i : Int)], B', ?_, by simp, ?_⟩
        · have e : xs.take (k + 1) = xs.take k ++ [x] := by
            rw [List.take_add_one, hk]
            rfl
          rw [e]
          exact ha.snoc hr hrx
        · show (Slot.own false (.list [.int a', .int b']) :: ρ.set j (.val (sS x.s))).set (j + 1) .un = _
          rw [List.set_cons_succ, List.set_set, back0])
  obtain ⟨a', b', args, B', ha, rfl, rfl⟩ := h2
  refine ⟨a', b', args, B', by rw [List.length_map, List.take_length] at ha; exact ha, ?_⟩
  rw [h1]
  congr 1
  show (Slot.own false (.list [.int a', .int b']) :: ρ).set (j + 1) (match (Slot.own false (.list [.int a, .int b]) :: ρ)[j + 1]? with | some (.val d) => .val d | _ => .un) = _
  rw [List.getElem?_cons_succ, hj, List.set_cons_succ, back0]
theorem row_ok {rs : List Rw} {a b : Int} {frees : Nat} (hf : 1 ≤ frees) (hs : frees ≤ rs.length → hasS rs .spot) (hl : rs.length ≤ 1000) (hfl : frees ≤ 1000) (B : BagOk a b) :
    ∃ a' b' w args, BagOk a' b' ∧ ArgsOk rs (Wd.asks w) args ∧ (rs.length < frees ↔ w = .free) ∧ d_law_law_row [.list [.int a, .int b], rowsD rs, .int frees] = .ok (rowD (w, args)) [.list [.int a', .int b']] := by
  have d10 := draw_ok B (m := 10) (by decide) (by decide)
  have B1 := drawOk B (m := 10) (by decide)
  obtain ⟨r1, r2⟩ := drawR_lt (a := a) (b := b) (m := 10) (by decide)
  obtain ⟨n, en⟩ := Int.eq_ofNat_of_zero_le r1
  have hn : n < 10 := by omega
  obtain ⟨w0, hw0⟩ : ∃ w0, tenW[n]? = some w0 := ⟨_, List.getElem?_eq_getElem (by show n < 10; exact hn)⟩
  have hw0f : w0 ≠ .free := fun e => by
    have : w0 ∈ tenW := List.mem_of_getElem? hw0
    rw [e] at this
    simp [tenW] at this
  have hat : at_ [sS "join", sS "meet", sS "curve", sS "about", sS "pole", sS "other", sS "join", sS "meet", sS "join", sS "meet"] (drawR a b 10) = some (sS w0.s) := by
    rw [en]
    rw [at_nat n (by simpa using hn)]
    show (tenW.map fun w => sS w.s)[n]? = _
    rw [List.getElem?_map, hw0]
    rfl
  -- the sorts that lie ahead
  let ss : List Sr := rs.map fun r => r.1.sr
  have hmem : ∀ x, x ∈ ss → hasS rs x := fun x hx => by
    obtain ⟨r, hr, e⟩ := List.mem_map.mp hx
    exact ⟨r, hr, e⟩
  let lack : List Sr := w0.asks.filter fun x => !decide (x ∈ ss)
  have hlt : ((rs.map rowD).length : Int) < frees ↔ rs.length < frees := by rw [List.length_map]; omega
  unfold d_law_law_row b_law_law_row rowsD
  rw [runD_ap rfl]
  simp only [dnA, List.getElem?_cons_zero, List.getElem?_cons_succ, List.set_cons_zero, List.set_cons_succ, if_true, Bool.false_eq_true, if_false, ↓reduceIte, decide_true, decide_false, decide_eq_true_eq, Option.elim_some, Option.map_some, String.reduceBEq, Bool.or_false, Bool.false_or, Bool.or_true, Bool.true_or, Bool.not_true, Bool.not_false, ne_eq, not_true_eq_false, not_false_eq_true, List.cons_append, List.nil_append, List.replicate, append_ap]
  rw [lcO_over rs rowD (fun r => sS r.1.sr.s) (fun _ => true), filter_all]
  rotate_left
  · exact fun r _ => ⟨_, rfl, rfl, rfl, fun _ => by simp only [dnA, List.getElem?_cons_zero, List.getElem?_cons_succ, List.set_cons_zero, List.set_cons_succ, if_true, Bool.false_eq_true, if_false, ↓reduceIte, decide_true, decide_false, decide_eq_true_eq, Option.elim_some, Option.map_some, String.reduceBEq, Bool.or_false, Bool.false_or, Bool.or_true, Bool.true_or, Bool.not_true, Bool.not_false, ne_eq, not_true_eq_false, not_false_eq_true, List.cons_append, List.nil_append, List.replicate, append_ap, rowD, call_v1 (sort_ok _ _)]⟩
  · rfl
  · rfl
  · omega
  simp only [dnA, List.getElem?_cons_zero, List.getElem?_cons_succ, List.set_cons_zero, List.set_cons_succ, if_true, Bool.false_eq_true, if_false, ↓reduceIte, decide_true, decide_false, decide_eq_true_eq, Option.elim_some, Option.map_some, String.reduceBEq, Bool.or_false, Bool.false_or, Bool.or_true, Bool.true_or, Bool.not_true, Bool.not_false, ne_eq, not_true_eq_false, not_false_eq_true, List.cons_append, List.nil_append, List.replicate, append_ap, call_m10 d10, hat, call_v1 (asks_ok w0)]
  rw [lcO_over w0.asks (fun x => sS x.s) (fun x => sS x.s) (fun x => !decide (x ∈ ss))]
  rotate_left
  · refine fun x _ => ⟨_, rfl, ?_, rfl, fun _ => by simp only [dnA, List.getElem?_cons_zero, List.getElem?_cons_succ, List.set_cons_zero, List.set_cons_succ, if_true, Bool.false_eq_true, if_false, ↓reduceIte, decide_true, decide_false, decide_eq_true_eq, Option.elim_some, Option.map_some, String.reduceBEq, Bool.or_false, Bool.false_or, Bool.or_true, Bool.true_or, Bool.not_true, Bool.not_false, ne_eq, not_true_eq_false, not_false_eq_true, List.cons_append, List.nil_append, List.replicate, append_ap]⟩
    have e : (rs.map fun r => sS r.1.sr.s) = ss.map fun y => sS y.s := by simp [ss]
    simp only [dnA, List.getElem?_cons_zero, List.getElem?_cons_succ, List.set_cons_zero, List.set_cons_succ, if_true, Bool.false_eq_true, if_false, ↓reduceIte, decide_true, decide_false, decide_eq_true_eq, Option.elim_some, Option.map_some, String.reduceBEq, Bool.or_false, Bool.false_or, Bool.or_true, Bool.true_or, Bool.not_true, Bool.not_false, ne_eq, not_true_eq_false, not_false_eq_true, List.cons_append, List.nil_append, List.replicate, append_ap, e, inS]
  · rfl
  · rfl
  · cases w0 <;> decide
  have hfree : d_law_law_asks [.str (PySem.Str.ofString "free")] = .ok (.list ((Wd.free.asks).map fun x => sS x.s)) [] := asks_ok .free
  have hjoin : d_law_law_asks [.str (PySem.Str.ofString "join")] = .ok (.list ((Wd.join.asks).map fun x => sS x.s)) [] := asks_ok .join
  by_cases hlf : rs.length < frees
  · have h1 := hlt.mpr hlf
    obtain ⟨a', b', args, B', ha, e⟩ := picks_ok (rs := rs) (xs := Wd.free.asks) (j := 7) (ρ := [.val (.list (rs.map rowD)), .val (.int frees), .val (.list (rs.map fun r => sS r.1.sr.s)), .val (.list [sS "join", sS "meet", sS "curve", sS "about", sS "pole", sS "other", sS "join", sS "meet", sS "join", sS "meet"]), .val (sS "free"), .val (.list ((w0.asks.filter fun x => !decide (x ∈ ss)).map fun x => sS x.s)), .un, .un])
      (el := callM d_law_law_pick [true, false, false] false [Dn.b 0, v 1, v 8]) (fun x hx => by cases hx) hl (by decide) B1 rfl (fun a b x => by simp only [dnA, List.getElem?_cons_zero, List.getElem?_cons_succ, List.set_cons_zero, List.set_cons_succ, if_true, Bool.false_eq_true, if_false, ↓reduceIte, decide_true, decide_false, decide_eq_true_eq, Option.elim_some, Option.map_some, String.reduceBEq, Bool.or_false, Bool.false_or, Bool.or_true, Bool.true_or, Bool.not_true, Bool.not_false, ne_eq, not_true_eq_false, not_false_eq_true, List.cons_append, List.nil_append, List.replicate, append_ap, rowsD])
    simp only [dnA, List.getElem?_cons_zero, List.getElem?_cons_succ, List.set_cons_zero, List.set_cons_succ, if_true, Bool.false_eq_true, if_false, ↓reduceIte, decide_true, decide_false, decide_eq_true_eq, Option.elim_some, Option.map_some, String.reduceBEq, Bool.or_false, Bool.false_or, Bool.or_true, Bool.true_or, Bool.not_true, Bool.not_false, ne_eq, not_true_eq_false, not_false_eq_true, List.cons_append, List.nil_append, List.replicate, append_ap, h1, call_v1 hfree, e]
    rw [addD_lst (by simp [Wd.asks] at ha ⊢; obtain ⟨h, _⟩ := ha; simp [h])]
    simp only [dnA, List.getElem?_cons_zero, List.getElem?_cons_succ, List.set_cons_zero, List.set_cons_succ, if_true, Bool.false_eq_true, if_false, ↓reduceIte, decide_true, decide_false, decide_eq_true_eq, Option.elim_some, Option.map_some, String.reduceBEq, Bool.or_false, Bool.false_or, Bool.or_true, Bool.true_or, Bool.not_true, Bool.not_false, ne_eq, not_true_eq_false, not_false_eq_true, List.cons_append, List.nil_append, List.replicate, append_ap]
    exact ⟨a', b', .free, args, B', ha, ⟨fun _ => rfl, fun _ => hlf⟩, rfl⟩
  · have h1 : ¬ ((rs.map rowD).length : Int) < frees := fun z => hlf (hlt.mp z)
    have h0 : hasS rs .spot := hs (by omega)
    by_cases hk : (w0.asks.filter fun x => !decide (x ∈ ss)) = []
    · have hall : ∀ x ∈ w0.asks, hasS rs x := fun x hx => by
        refine hmem x ?_
        have := List.filter_eq_nil_iff.mp hk x hx
        simpa using this
      obtain ⟨a', b', args, B', ha, e⟩ := picks_ok (rs := rs) (xs := w0.asks) (j := 7) (ρ := [.val (.list (rs.map rowD)), .val (.int frees), .val (.list (rs.map fun r => sS r.1.sr.s)), .val (.list [sS "join", sS "meet", sS "curve", sS "about", sS "pole", sS "other", sS "join", sS "meet", sS "join", sS "meet"]), .val (sS w0.s), .val (.list []), .un, .un])
        (el := callM d_law_law_pick [true, false, false] false [Dn.b 0, v 1, v 8]) hall hl (by cases w0 <;> decide) B1 rfl (fun a b x => by simp only [dnA, List.getElem?_cons_zero, List.getElem?_cons_succ, List.set_cons_zero, List.set_cons_succ, if_true, Bool.false_eq_true, if_false, ↓reduceIte, decide_true, decide_false, decide_eq_true_eq, Option.elim_some, Option.map_some, String.reduceBEq, Bool.or_false, Bool.false_or, Bool.or_true, Bool.true_or, Bool.not_true, Bool.not_false, ne_eq, not_true_eq_false, not_false_eq_true, List.cons_append, List.nil_append, List.replicate, append_ap, rowsD])
      simp only [dnA, List.getElem?_cons_zero, List.getElem?_cons_succ, List.set_cons_zero, List.set_cons_succ, if_true, Bool.false_eq_true, if_false, ↓reduceIte, decide_true, decide_false, decide_eq_true_eq, Option.elim_some, Option.map_some, String.reduceBEq, Bool.or_false, Bool.false_or, Bool.or_true, Bool.true_or, Bool.not_true, Bool.not_false, ne_eq, not_true_eq_false, not_false_eq_true, List.cons_append, List.nil_append, List.replicate, append_ap, h1, hk, List.map_nil, List.length_nil, call_v1 (asks_ok w0), e, show ¬ ((0 : Int) < ((0 : Nat) : Int)) by decide]
      rw [addD_lst (by rw [List.length_map, ha.1]; cases w0 <;> decide)]
      simp only [dnA, List.getElem?_cons_zero, List.getElem?_cons_succ, List.set_cons_zero, List.set_cons_succ, if_true, Bool.false_eq_true, if_false, ↓reduceIte, decide_true, decide_false, decide_eq_true_eq, Option.elim_some, Option.map_some, String.reduceBEq, Bool.or_false, Bool.false_or, Bool.or_true, Bool.true_or, Bool.not_true, Bool.not_false, ne_eq, not_true_eq_false, not_false_eq_true, List.cons_append, List.nil_append, List.replicate, append_ap]
      exact ⟨a', b', w0, args, B', ha, ⟨fun z => absurd z hlf, fun e => absurd e hw0f⟩, rfl⟩
    · have hk1 : (0 : Int) < (((w0.asks.filter fun x => !decide (x ∈ ss)).map fun x => sS x.s).length : Nat) := by
        have := List.length_pos_iff.mpr hk
        rw [List.length_map]
        omega
      obtain ⟨a', b', args, B', ha, e⟩ := picks_ok (rs := rs) (xs := Wd.join.asks) (j := 7) (ρ := [.val (.list (rs.map rowD)), .val (.int frees), .val (.list (rs.map fun r => sS r.1.sr.s)), .val (.list [sS "join", sS "meet", sS "curve", sS "about", sS "pole", sS "other", sS "join", sS "meet", sS "join", sS "meet"]), .val (sS "join"), .val (.list ((w0.asks.filter fun x => !decide (x ∈ ss)).map fun x => sS x.s)), .un, .un])
        (el := callM d_law_law_pick [true, false, false] false [Dn.b 0, v 1, v 8]) (fun x hx => by simp [Wd.asks] at hx; rw [hx]; exact h0) hl (by decide) B1 rfl (fun a b x => by simp only [dnA, List.getElem?_cons_zero, List.getElem?_cons_succ, List.set_cons_zero, List.set_cons_succ, if_true, Bool.false_eq_true, if_false, ↓reduceIte, decide_true, decide_false, decide_eq_true_eq, Option.elim_some, Option.map_some, String.reduceBEq, Bool.or_false, Bool.false_or, Bool.or_true, Bool.true_or, Bool.not_true, Bool.not_false, ne_eq, not_true_eq_false, not_false_eq_true, List.cons_append, List.nil_append, List.replicate, append_ap, rowsD])
      simp only [dnA, List.getElem?_cons_zero, List.getElem?_cons_succ, List.set_cons_zero, List.set_cons_succ, if_true, Bool.false_eq_true, if_false, ↓reduceIte, decide_true, decide_false, decide_eq_true_eq, Option.elim_some, Option.map_some, String.reduceBEq, Bool.or_false, Bool.false_or, Bool.or_true, Bool.true_or, Bool.not_true, Bool.not_false, ne_eq, not_true_eq_false, not_false_eq_true, List.cons_append, List.nil_append, List.replicate, append_ap, h1, hk1, call_v1 hjoin, e]
      rw [addD_lst (by rw [List.length_map, ha.1]; decide)]
      simp only [dnA, List.getElem?_cons_zero, List.getElem?_cons_succ, List.set_cons_zero, List.set_cons_succ, if_true, Bool.false_eq_true, if_false, ↓reduceIte, decide_true, decide_false, decide_eq_true_eq, Option.elim_some, Option.map_some, String.reduceBEq, Bool.or_false, Bool.false_or, Bool.or_true, Bool.true_or, Bool.not_true, Bool.not_false, ne_eq, not_true_eq_false, not_false_eq_true, List.cons_append, List.nil_append, List.replicate, append_ap]
      exact ⟨a', b', .join, args, B', ha, ⟨fun z => absurd z hlf, fun e => by cases e⟩, rfl⟩

end Dn


/-! DtQ: the law's own reckoning with spots and curves, where no claims are. -/
namespace Dn
open PySem
theorem lgm {x y : Int} {n m k : Nat} (hx : lg x ≤ n) (hy : lg y ≤ m) (h : n + m + 1 ≤ k) : lg (x * y) ≤ k := Nat.le_trans (lg_mul x y) (by omega)
theorem lga {x y : Int} {n m k : Nat} (hx : lg x ≤ n) (hy : lg y ≤ m) (h : max n m + 1 ≤ k) : lg (x + y) ≤ k := Nat.le_trans (lg_add (n := max n m) (by omega) (by omega)) h
theorem lgs {x y : Int} {n m k : Nat} (hx : lg x ≤ n) (hy : lg y ≤ m) (h : max n m + 1 ≤ k) : lg (x - y) ≤ k := Nat.le_trans (lg_sub (n := max n m) (by omega) (by omega)) h
theorem VP.dot {n m k : Nat} {v w : P3} (h : VP n v) (g : VP m w) (hk : n + m + 3 ≤ k) : lg (dotP v w) ≤ k :=
  lga (lga (lgm h.a g.a (Nat.le_refl _)) (lgm h.b g.b (Nat.le_refl _)) (Nat.le_refl _)) (lgm h.c g.c (Nat.le_refl _)) (by omega)
/-! ### curves -/
abbrev P6 := Int × Int × Int × Int × Int × Int
def qD (q : P6) : D := .tuple [.int q.1, .int q.2.1, .int q.2.2.1, .int q.2.2.2.1, .int q.2.2.2.2.1, .int q.2.2.2.2.2]
structure VQ (n : Nat) (q : P6) : Prop where
  a : lg q.1 ≤ n
  b : lg q.2.1 ≤ n
  c : lg q.2.2.1 ≤ n
  d : lg q.2.2.2.1 ≤ n
  e : lg q.2.2.2.2.1 ≤ n
  f : lg q.2.2.2.2.2 ≤ n
def worthP (q : P6) (p : P3) : Int := q.1 * p.1 * p.1 + q.2.1 * p.1 * p.2.1 + q.2.2.1 * p.2.1 * p.2.1 + q.2.2.2.1 * p.1 * p.2.2 + q.2.2.2.2.1 * p.2.1 * p.2.2 + q.2.2.2.2.2 * p.2.2 * p.2.2
def row0 (q : P6) : P3 := (2 * q.1, q.2.1, q.2.2.2.1)
def row1 (q : P6) : P3 := (q.2.1, 2 * q.2.2.1, q.2.2.2.2.1)
def row2 (q : P6) : P3 := (q.2.2.2.1, q.2.2.2.2.1, 2 * q.2.2.2.2.2)
def sizeP (q : P6) : Int := turnP (row0 q) (row1 q) (row2 q)
def timesP (q : P6) (p : P3) : P3 := (dotP (row0 q) p, dotP (row1 q) p, dotP (row2 q) p)
def touchP (q : P6) (l : P3) : Int := dotP l (dotP (crossP (row1 q) (row2 q)) l, dotP (crossP (row2 q) (row0 q)) l, dotP (crossP (row0 q) (row1 q)) l)
theorem lg2 {x : Int} {n : Nat} (h : lg x ≤ n) : lg (2 * x) ≤ n + 2 := lgm (n := 1) (by decide) h (by omega)
theorem VQ.rows {n : Nat} {q : P6} (h : VQ n q) : VP (n + 2) (row0 q) ∧ VP (n + 2) (row1 q) ∧ VP (n + 2) (row2 q) := by
  obtain ⟨a, b, c, d, e, f⟩ := h
  exact ⟨⟨lg2 a, by exact Nat.le_add_right_of_le b, by exact Nat.le_add_right_of_le d⟩, ⟨by exact Nat.le_add_right_of_le b, lg2 c, by exact Nat.le_add_right_of_le e⟩, ⟨by exact Nat.le_add_right_of_le d, by exact Nat.le_add_right_of_le e, lg2 f⟩⟩
theorem put6 {x y z x' y' z' : D} {i j k i' j' k' : Nat} {ρ : Env} : tg (.tp [i, j, k, i', j', k']) (.tuple [x, y, z, x', y', z']) ρ = some ((((((ρ.set i (.val x)).set j (.val y)).set k (.val z)).set i' (.val x')).set j' (.val y')).set k' (.val z')) := rfl
theorem mulS {x y : Int} (hx : lg x ≤ 60000000) (hy : lg y ≤ 60000000) : mulD (.int x) (.int y) = some (.int (x * y)) := mulB x y hx hy
theorem lcross_p {v w : P3} (h : VP 1000000 v) (k : VP 1000000 w) : d_law_law_cross [pD v, pD w] = .ok (pD (crossP v w)) [] := by
  obtain ⟨a, b, c⟩ := v
  obtain ⟨d, e, f⟩ := w
  obtain ⟨h1, h2, h3⟩ := h
  obtain ⟨k1, k2, k3⟩ := k
  have m : ∀ x y, lg x ≤ 1000000 → lg y ≤ 1000000 → mulD (.int x) (.int y) = some (.int (x * y)) := fun x y hx hy => mulB x y (by omega) (by omega)
  unfold d_law_law_cross b_law_law_cross pD vD
  rw [runD_ap rfl]
  simp only [dnA, List.getElem?_cons_zero, List.getElem?_cons_succ, List.set_cons_zero, List.set_cons_succ, if_true, Bool.false_eq_true, if_false, ↓reduceIte, decide_true, decide_false, decide_eq_true_eq, Option.elim_some, Option.map_some, String.reduceBEq, Bool.or_false, Bool.false_or, Bool.or_true, Bool.true_or, Bool.not_true, Bool.not_false, ne_eq, not_true_eq_false, not_false_eq_true, List.cons_append, List.nil_append, List.replicate, append_ap, tg3, m, h1, h2, h3, k1, k2, k3]
  rfl
theorem ldot_p {v w : P3} (h : VP 10000000 v) (k : VP 10000000 w) : d_law_law_dot [pD v, pD w] = .ok (.int (dotP v w)) [] := by
  obtain ⟨a, b, c⟩ := v
  obtain ⟨d, e, f⟩ := w
  obtain ⟨h1, h2, h3⟩ := h
  obtain ⟨k1, k2, k3⟩ := k
  have m : ∀ x y, lg x ≤ 10000000 → lg y ≤ 10000000 → mulD (.int x) (.int y) = some (.int (x * y)) := fun x y hx hy => mulB x y (by omega) (by omega)
  unfold d_law_law_dot b_law_law_dot pD vD
  rw [runD_ap rfl]
  simp only [dnA, List.getElem?_cons_zero, List.getElem?_cons_succ, List.set_cons_zero, List.set_cons_succ, if_true, Bool.false_eq_true, if_false, ↓reduceIte, decide_true, decide_false, decide_eq_true_eq, Option.elim_some, Option.map_some, String.reduceBEq, Bool.or_false, Bool.false_or, Bool.or_true, Bool.true_or, Bool.not_true, Bool.not_false, ne_eq, not_true_eq_false, not_false_eq_true, List.cons_append, List.nil_append, List.replicate, append_ap, m, h1, h2, h3, k1, k2, k3]
  rfl
theorem lturn_p {u v w : P3} (h : VP 1000000 u) (k : VP 1000000 v) (l : VP 1000000 w) : d_law_law_turn [pD u, pD v, pD w] = .ok (.int (turnP u v w)) [] := by
  unfold d_law_law_turn b_law_law_turn
  rw [runD_ap rfl]
  simp only [dnA, List.getElem?_cons_zero, List.getElem?_cons_succ, List.set_cons_zero, List.set_cons_succ, if_true, Bool.false_eq_true, if_false, ↓reduceIte, decide_true, decide_false, decide_eq_true_eq, Option.elim_some, Option.map_some, String.reduceBEq, Bool.or_false, Bool.false_or, Bool.or_true, Bool.true_or, Bool.not_true, Bool.not_false, ne_eq, not_true_eq_false, not_false_eq_true, List.cons_append, List.nil_append, List.replicate, append_ap, call_v2 (lcross_p h k), call_v2 (ldot_p ((h.cross k).mono (by decide)) (l.mono (by decide)))]
  rfl
theorem lrows_ok {q : P6} (h : VQ 1000000 q) : d_law_law_rows_of [qD q] = .ok (.list [pD (row0 q), pD (row1 q), pD (row2 q)]) [] := by
  have m : ∀ {s : Int}, lg s ≤ 1000000 → mulD (.int 2) (.int s) = some (.int (2 * s)) := fun hs => mulB _ _ (by decide) (Nat.le_trans hs (by decide))
  unfold d_law_law_rows_of b_law_law_rows_of qD
  rw [runD_ap rfl]
  simp only [dnA, List.getElem?_cons_zero, List.getElem?_cons_succ, List.set_cons_zero, List.set_cons_succ, if_true, Bool.false_eq_true, if_false, ↓reduceIte, decide_true, decide_false, decide_eq_true_eq, Option.elim_some, Option.map_some, String.reduceBEq, Bool.or_false, Bool.false_or, Bool.or_true, Bool.true_or, Bool.not_true, Bool.not_false, ne_eq, not_true_eq_false, not_false_eq_true, List.cons_append, List.nil_append, List.replicate, append_ap, put6, m h.a, m h.c, m h.f]
  rfl
theorem VQ.mono {n m : Nat} {v : P6} (h : VQ n v) (hm : n ≤ m) : VQ m v := ⟨Nat.le_trans h.a hm, Nat.le_trans h.b hm, Nat.le_trans h.c hm, Nat.le_trans h.d hm, Nat.le_trans h.e hm, Nat.le_trans h.f hm⟩
theorem ltimes_p {q : P6} {p : P3} (h : VQ 100000 q) (k : VP 1000000 p) : d_law_law_times [qD q, pD p] = .ok (pD (timesP q p)) [] := by
  obtain ⟨h1, h2, h3⟩ := h.rows
  unfold d_law_law_times b_law_law_times
  rw [runD_ap rfl]
  simp only [dnA, List.getElem?_cons_zero, List.getElem?_cons_succ, List.set_cons_zero, List.set_cons_succ, if_true, Bool.false_eq_true, if_false, ↓reduceIte, decide_true, decide_false, decide_eq_true_eq, Option.elim_some, Option.map_some, String.reduceBEq, Bool.or_false, Bool.false_or, Bool.or_true, Bool.true_or, Bool.not_true, Bool.not_false, ne_eq, not_true_eq_false, not_false_eq_true, List.cons_append, List.nil_append, List.replicate, append_ap, call_v1 (lrows_ok (h.mono (by decide)))]
  rw [show [pD (row0 q), pD (row1 q), pD (row2 q)] = [row0 q, row1 q, row2 q].map pD from rfl, lcO_over _ pD (fun x => PyData.int (dotP x p)) (fun _ => true), filter_all]
  rotate_left
  · intro x hx
    have hx : VP 10000000 x := by
      simp only [List.mem_cons, List.mem_nil_iff, or_false] at hx
      rcases hx with rfl | rfl | rfl
      · exact h1.mono (by decide)
      · exact h2.mono (by decide)
      · exact h3.mono (by decide)
    exact ⟨_, rfl, rfl, rfl, fun _ => by simp only [dnA, List.getElem?_cons_zero, List.getElem?_cons_succ, List.set_cons_zero, List.set_cons_succ, if_true, Bool.false_eq_true, if_false, ↓reduceIte, decide_true, decide_false, decide_eq_true_eq, Option.elim_some, Option.map_some, String.reduceBEq, Bool.or_false, Bool.false_or, Bool.or_true, Bool.true_or, Bool.not_true, Bool.not_false, ne_eq, not_true_eq_false, not_false_eq_true, List.cons_append, List.nil_append, List.replicate, append_ap, call_v2 (ldot_p hx (k.mono (by decide)))]⟩
  · rfl
  · rfl
  · exact Nat.le_of_ble_eq_true rfl
  simp only [dnA, List.getElem?_cons_zero, List.getElem?_cons_succ, List.set_cons_zero, List.set_cons_succ, if_true, Bool.false_eq_true, if_false, ↓reduceIte, decide_true, decide_false, decide_eq_true_eq, Option.elim_some, Option.map_some, String.reduceBEq, Bool.or_false, Bool.false_or, Bool.or_true, Bool.true_or, Bool.not_true, Bool.not_false, ne_eq, not_true_eq_false, not_false_eq_true, List.cons_append, List.nil_append, List.replicate, append_ap, List.map_cons, List.map_nil]
  rfl
theorem VQ.times {n m : Nat} {q : P6} {p : P3} (h : VQ n q) (k : VP m p) : VP (n + m + 5) (timesP q p) := by
  obtain ⟨h1, h2, h3⟩ := h.rows
  exact ⟨h1.dot k (by omega), h2.dot k (by omega), h3.dot k (by omega)⟩
end Dn


/-! DtG: the raws' reckoning with letter things. -/
namespace Dn
open PySem
theorem cap_mono {L n d n' d' : Nat} (h1 : n ≤ n') (h2 : d ≤ d') : cap L n d ≤ cap L n' d' := by
  unfold cap
  split
  · exact Nat.mul_le_mul (by omega) (by omega)
  · exact h1
theorem Pol.mono {L n d e n' d' e' : Nat} {o : AL} (h : Pol L n d e o) (h1 : n ≤ n') (h2 : d ≤ d') (h3 : e ≤ e') : Pol L n' d' e' o :=
  ⟨h.nf, h.srt, Nat.le_trans h.few (cap_mono h1 h2), fun p hp x hx => by have := h.low p hp x hx; omega, Nat.lt_of_lt_of_le h.num (Nat.pow_le_pow_right (by decide) h3)⟩
theorem Pol.lgs {L n d e : Nat} {o : AL} (h : Pol L n d e o) (he : e ≤ 1000) : ∀ p ∈ o, lg p.2 ≤ 1000 := fun p hp => by
  refine Nat.le_trans (lg_lt (k := e) ?_) he
  exact Nat.lt_trans (Nat.lt_of_le_of_lt (mem_nrm hp) h.num) (Nat.pow_lt_pow_right (by decide) (Nat.lt_succ_self e))
/-- so great sums may be added, multiplied -/
def okP (n1 d1 n2 d2 : Nat) : Bool := decide (n1 + n2 ≤ 600) && (decide (d1 ≤ 22) && decide (d2 ≤ 22))
def okT (n1 d1 n2 d2 : Nat) : Bool := decide (n1 ≤ 600) && (decide (n2 ≤ 600) && (decide (n1 * n2 ≤ 600) && (decide (d1 ≤ 22) && (decide (d2 ≤ 22) && (decide (d1 + d2 ≤ 22) && decide ((d1 + 1) * (d1 + 1) * ((d2 + 1) * (d2 + 1)) ≤ 20000))))))
theorem cap600 {L n d : Nat} (h1 : n ≤ 600) (h2 : d ≤ 22) : cap L n d ≤ 600 := by
  unfold cap
  split
  · exact Nat.le_trans (Nat.mul_le_mul (show d + 1 ≤ 23 by omega) (show d + 1 ≤ 23 by omega)) (by decide)
  · exact h1
theorem plusG {L n1 d1 e1 n2 d2 e2 : Nat} {a b : AL} (z : ZL L) (ha : Pol L n1 d1 e1 a) (hb : Pol L n2 d2 e2 b) (ok : okP n1 d1 n2 d2 = true) :
    d_letters_plus [smF a, smF b] = .ok (smF (plusA a b)) [] ∧ Pol L (n1 + n2) (max d1 d2) (max e1 e2 + 1) (plusA a b) := by
  unfold okP at ok
  rw [Bool.and_eq_true, Bool.and_eq_true, decide_eq_true_iff, decide_eq_true_iff, decide_eq_true_iff] at ok
  have q := plusA_pol (n := n1 + n2) (d := max d1 d2) (e := max e1 e2 + 1) ha hb (Nat.le_refl _) (by omega) (by omega) (by omega) (by omega)
  have := ha.few
  have := hb.few
  have := q.few
  have := cap600 (L := L) (n := n1) (d := d1) (by omega) ok.2.1
  have := cap600 (L := L) (n := n2) (d := d2) (by omega) ok.2.2
  have := cap600 (L := L) (n := n1 + n2) (d := max d1 d2) ok.1 (by omega)
  exact ⟨plus_ok z ha.nf hb.nf (by omega) (by omega) (by omega), q⟩
theorem plusS {L n d e : Nat} {a : AL} (z : ZL L) (ha : Pol L n d e a) (ok : okP n d n d = true) :
    d_letters_plus [smF a, smF a] = .ok (smF (plusA a a)) [] ∧ Pol L n d (e + 1) (plusA a a) := by
  obtain ⟨h1, h2⟩ := plusG z ha ha ok
  rw [Nat.max_self, Nat.max_self] at h2
  refine ⟨h1, h2.nf, h2.srt, ?_, h2.low, h2.num⟩
  have K : KeysL L (dctP a a) := foldA_KL _ _ a a (fun p hp => ha.nf.len p hp) ha.nf.keys
  have e1 : (plusA a a).length ≤ (dctP a a).length := nf_len _
  have e2 : (dctP a a).length = (keysA (dctP a a)).length := by simp [keysA]
  have e3 : (keysA (dctP a a)).length ≤ (keysA a).length := nodup_le K.nd fun k hk => by
    rcases dctP_keys hk with h | h <;> exact h
  have e4 : (keysA a).length = a.length := by simp [keysA]
  have := ha.few
  omega
def minusA (a b : AL) : AL := plusA a (negA b)
theorem minusA_ev {L : Nat} {a b : AL} (ha : NF L a) (xs : List Int) : evL (minusA a b) xs = evL a xs - evL b xs := by
  unfold minusA
  rw [plusA_ev ha, negA_ev]
  omega
theorem minusG {L n1 d1 e1 n2 d2 e2 : Nat} {a b : AL} (z : ZL L) (ha : Pol L n1 d1 e1 a) (hb : Pol L n2 d2 e2 b) (ok : okP n1 d1 n2 d2 = true) :
    d_letters_minus [smF a, smF b] = .ok (smF (minusA a b)) [] ∧ Pol L (n1 + n2) (max d1 d2) (max e1 e2 + 1) (minusA a b) := by
  obtain ⟨h1, h2⟩ := plusG z ha (negA_pol hb) ok
  refine ⟨?_, h2⟩
  have hl : b.length ≤ 100000 := by
    unfold okP at ok
    rw [Bool.and_eq_true, Bool.and_eq_true, decide_eq_true_iff, decide_eq_true_iff, decide_eq_true_iff] at ok
    have := cap600 (L := L) (n := n2) (d := d2) (by omega) ok.2.2
    have := hb.few
    omega
  unfold d_letters_minus b_letters_minus
  rw [runD_ap rfl]
  simp only [dnA, List.getElem?_cons_zero, List.getElem?_cons_succ, List.set_cons_zero, List.set_cons_succ, if_true, Bool.false_eq_true, if_false, ↓reduceIte, decide_true, decide_false, decide_eq_true_eq, Option.elim_some, Option.map_some, String.reduceBEq, Bool.or_false, Bool.false_or, Bool.or_true, Bool.true_or, Bool.not_true, Bool.not_false, ne_eq, not_true_eq_false, not_false_eq_true, List.cons_append, List.nil_append, List.replicate, append_ap, call_v1 (turned_ok b hl), call_v2 h1]
  rfl
theorem timesG {L n1 d1 e1 n2 d2 e2 : Nat} {a b : AL} (z : ZL L) (hL : L ≤ 100) (ha : Pol L n1 d1 e1 a) (hb : Pol L n2 d2 e2 b) (he : e1 ≤ 1000 ∧ e2 ≤ 1000) (ok : okT n1 d1 n2 d2 = true) :
    d_letters_times [smF a, smF b] = .ok (smF (timesA a b)) [] ∧ Pol L (n1 * n2) (d1 + d2) (e1 + e2) (timesA a b) := by
  unfold okT at ok
  simp only [Bool.and_eq_true, decide_eq_true_iff] at ok
  obtain ⟨k1, k2, k3, k4, k5, k6, k7⟩ := ok
  have q := timesA_pol (n := n1 * n2) (d := d1 + d2) (e := e1 + e2) ha hb (Nat.le_refl _) (Nat.le_refl _) (Nat.le_refl _)
  have f1 := ha.few
  have f2 := hb.few
  have := q.few
  have := cap600 (L := L) (n := n1) (d := d1) (by omega) k4
  have := cap600 (L := L) (n := n2) (d := d2) (by omega) k5
  have := cap600 (L := L) (n := n1 * n2) (d := d1 + d2) k3 (by omega)
  have hp : a.length * b.length ≤ 20000 := by
    refine Nat.le_trans (Nat.mul_le_mul f1 f2) ?_
    unfold cap
    split
    · exact k7
    · omega
  exact ⟨times_ok z (by omega) ha.nf hb.nf ha.low hb.low (by omega) (by omega) (by omega) hp (fun p h => Nat.le_trans (ha.lgs he.1 p h) (by decide)) (fun p h => Nat.le_trans (hb.lgs he.2 p h) (by decide)) (by omega), q⟩
/-! ### threes of sums -/
abbrev T3 := AL × AL × AL
def th3 (t : T3) : D := .tuple [smF t.1, smF t.2.1, smF t.2.2]
structure P3P (L n d e : Nat) (t : T3) : Prop where
  a : Pol L n d e t.1
  b : Pol L n d e t.2.1
  c : Pol L n d e t.2.2
def ev3 (t : T3) (xs : List Int) : P3 := (evL t.1 xs, evL t.2.1 xs, evL t.2.2 xs)
theorem P3P.mono {L n d e n' d' e' : Nat} {t : T3} (h : P3P L n d e t) (h1 : n ≤ n') (h2 : d ≤ d') (h3 : e ≤ e') : P3P L n' d' e' t := ⟨h.a.mono h1 h2 h3, h.b.mono h1 h2 h3, h.c.mono h1 h2 h3⟩
def crossA (s t : T3) : T3 := (minusA (timesA s.2.1 t.2.2) (timesA s.2.2 t.2.1), minusA (timesA s.2.2 t.1) (timesA s.1 t.2.2), minusA (timesA s.1 t.2.1) (timesA s.2.1 t.1))
def dotA (s t : T3) : AL := plusA (plusA (timesA s.1 t.1) (timesA s.2.1 t.2.1)) (timesA s.2.2 t.2.2)
theorem crossG {L n1 d1 e1 n2 d2 e2 : Nat} {s t : T3} (z : ZL L) (hL : L ≤ 100) (ha : P3P L n1 d1 e1 s) (hb : P3P L n2 d2 e2 t) (he : e1 ≤ 1000 ∧ e2 ≤ 1000) (ok : okT n1 d1 n2 d2 = true) (ok2 : okP (n1 * n2) (d1 + d2) (n1 * n2) (d1 + d2) = true) :
    d_raws_crossed [th3 s, th3 t] = .ok (th3 (crossA s t)) [] ∧ P3P L (n1 * n2 + n1 * n2) (d1 + d2) (e1 + e2 + 1) (crossA s t) := by
  obtain ⟨a, b, c⟩ := s
  obtain ⟨d, e, f⟩ := t
  obtain ⟨ha, hb', hc⟩ := ha
  obtain ⟨hd, hee, hf⟩ := hb
  obtain ⟨x1, y1⟩ := timesG z hL hb' hf he ok
  obtain ⟨x2, y2⟩ := timesG z hL hc hee he ok
  obtain ⟨x3, y3⟩ := timesG z hL hc hd he ok
  obtain ⟨x4, y4⟩ := timesG z hL ha hf he ok
  obtain ⟨x5, y5⟩ := timesG z hL ha hee he ok
  obtain ⟨x6, y6⟩ := timesG z hL hb' hd he ok
  obtain ⟨u1, v1⟩ := minusG z y1 y2 ok2
  obtain ⟨u2, v2⟩ := minusG z y3 y4 ok2
  obtain ⟨u3, v3⟩ := minusG z y5 y6 ok2
  rw [Nat.max_self, Nat.max_self] at v1 v2 v3
  refine ⟨?_, v1, v2, v3⟩
  unfold d_raws_crossed b_raws_crossed
  rw [runD_ap rfl]
  have ap : ∀ (x : D) (ds : List D), ds.length ≤ 3 → appD x (.list ds) = some (.list (ds ++ [x])) := fun x ds h => appD_lst (by omega)
  simp only [dnA, List.getElem?_cons_zero, List.getElem?_cons_succ, List.set_cons_zero, List.set_cons_succ, if_true, Bool.false_eq_true, if_false, ↓reduceIte, decide_true, decide_false, decide_eq_true_eq, Option.elim_some, Option.map_some, String.reduceBEq, Bool.or_false, Bool.false_or, Bool.or_true, Bool.true_or, Bool.not_true, Bool.not_false, ne_eq, not_true_eq_false, not_false_eq_true, List.cons_append, List.nil_append, List.replicate, append_ap, forI_ap, th3]
  have t2 : ∀ {i j : Nat} {x y : D} {ρ : Env}, tg (.tp [i, j]) (.tuple [x, y]) ρ = some ((ρ.set i (.val x)).set j (.val y)) := rfl
  rw [show [PyData.tuple [.int 1, .int 2], .tuple [.int 2, .int 0], .tuple [.int 0, .int 1]].length = 3 from rfl]
  rw [forN_step (d := PyData.tuple [.int 1, .int 2]) rfl t2]
  simp only [dnA, List.getElem?_cons_zero, List.getElem?_cons_succ, List.set_cons_zero, List.set_cons_succ, if_true, Bool.false_eq_true, if_false, ↓reduceIte, decide_true, decide_false, decide_eq_true_eq, Option.elim_some, Option.map_some, String.reduceBEq, Bool.or_false, Bool.false_or, Bool.or_true, Bool.true_or, Bool.not_true, Bool.not_false, ne_eq, not_true_eq_false, not_false_eq_true, List.cons_append, List.nil_append, List.replicate, append_ap, call_v2 x1, call_v2 x2, call_v2 u1, ap _ [] (by decide)]
  rw [forN_step (d := PyData.tuple [.int 2, .int 0]) rfl t2]
  simp only [dnA, List.getElem?_cons_zero, List.getElem?_cons_succ, List.set_cons_zero, List.set_cons_succ, if_true, Bool.false_eq_true, if_false, ↓reduceIte, decide_true, decide_false, decide_eq_true_eq, Option.elim_some, Option.map_some, String.reduceBEq, Bool.or_false, Bool.false_or, Bool.or_true, Bool.true_or, Bool.not_true, Bool.not_false, ne_eq, not_true_eq_false, not_false_eq_true, List.cons_append, List.nil_append, List.replicate, append_ap, call_v2 x3, call_v2 x4, call_v2 u2, ap _ [smF (minusA (timesA b f) (timesA c e))] (by simp)]
  rw [forN_step (d := PyData.tuple [.int 0, .int 1]) rfl t2]
  simp only [dnA, List.getElem?_cons_zero, List.getElem?_cons_succ, List.set_cons_zero, List.set_cons_succ, if_true, Bool.false_eq_true, if_false, ↓reduceIte, decide_true, decide_false, decide_eq_true_eq, Option.elim_some, Option.map_some, String.reduceBEq, Bool.or_false, Bool.false_or, Bool.or_true, Bool.true_or, Bool.not_true, Bool.not_false, ne_eq, not_true_eq_false, not_false_eq_true, List.cons_append, List.nil_append, List.replicate, append_ap, call_v2 x5, call_v2 x6, call_v2 u3, ap _ [smF (minusA (timesA b f) (timesA c e)), smF (minusA (timesA c d) (timesA a f))] (by simp)]
  rfl
theorem crossA_ev {L n1 d1 e1 n2 d2 e2 : Nat} {s t : T3} (ha : P3P L n1 d1 e1 s) (hb : P3P L n2 d2 e2 t) {xs : List Int} (hx : xs.length = L) : ev3 (crossA s t) xs = crossP (ev3 s xs) (ev3 t xs) := by
  have m : ∀ {a b c d : AL}, NF L a → NF L b → NF L c → NF L d → evL (minusA (timesA a b) (timesA c d)) xs = evL a xs * evL b xs - evL c xs * evL d xs := fun {a b c d} h1 h2 h3 h4 => by
    have hn : NF L (timesA a b) := by
      have K : KeysL L (mkA (prdT a b)) := mk_KL fun r hr => by
        obtain ⟨p, hp, q, hq, rfl⟩ := prdT_mem hr
        exact addK_len (h1.len p hp) (h2.len q hq)
      refine ⟨nf_nodup K.nd, fun p hp => K.len _ (nf_mem hp).2.2, fun p hp x hx => ?_, fun p hp => (nf_mem hp).2.1⟩
      obtain ⟨r, hr, e⟩ := mk_keys (nf_mem hp).2.2
      obtain ⟨p', hp', q, hq, rfl⟩ := prdT_mem hr
      rw [← e] at hx
      obtain ⟨y, hy, z, hz, rfl⟩ := addK_mem hx
      have := h1.pos p' hp' y hy
      have := h2.pos q hq z hz
      omega
    rw [minusA_ev hn, timesA_ev h1 h2 hx, timesA_ev h3 h4 hx]
  unfold ev3 crossA crossP
  rw [m ha.b.nf hb.c.nf ha.c.nf hb.b.nf, m ha.c.nf hb.a.nf ha.a.nf hb.c.nf, m ha.a.nf hb.b.nf ha.b.nf hb.a.nf]
theorem dotG {L n1 d1 e1 n2 d2 e2 : Nat} {s t : T3} (z : ZL L) (hL : L ≤ 100) (ha : P3P L n1 d1 e1 s) (hb : P3P L n2 d2 e2 t) (he : e1 ≤ 1000 ∧ e2 ≤ 1000) (ok : okT n1 d1 n2 d2 = true) (ok2 : okP (n1 * n2 + n1 * n2) (d1 + d2) (n1 * n2) (d1 + d2) = true) :
    d_raws_dotted [th3 s, th3 t] = .ok (smF (dotA s t)) [] ∧ Pol L (n1 * n2 + n1 * n2 + n1 * n2) (d1 + d2) (e1 + e2 + 2) (dotA s t) := by
  obtain ⟨a, b, c⟩ := s
  obtain ⟨d, e, f⟩ := t
  obtain ⟨ha, hb', hc⟩ := ha
  obtain ⟨hd, hee, hf⟩ := hb
  have ok1 : okP (n1 * n2) (d1 + d2) (n1 * n2) (d1 + d2) = true := by
    unfold okP at ok2 ⊢
    simp only [Bool.and_eq_true, decide_eq_true_iff] at ok2 ⊢
    omega
  obtain ⟨x1, y1⟩ := timesG z hL ha hd he ok
  obtain ⟨x2, y2⟩ := timesG z hL hb' hee he ok
  obtain ⟨x3, y3⟩ := timesG z hL hc hf he ok
  obtain ⟨u1, v1⟩ := plusG z y1 y2 ok1
  rw [Nat.max_self, Nat.max_self] at v1
  obtain ⟨u2, v2⟩ := plusG z v1 y3 ok2
  rw [Nat.max_self, show max (e1 + e2 + 1) (e1 + e2) + 1 = e1 + e2 + 2 by omega] at v2
  refine ⟨?_, v2⟩
  unfold d_raws_dotted b_raws_dotted
  rw [runD_ap rfl]
  simp only [dnA, List.getElem?_cons_zero, List.getElem?_cons_succ, List.set_cons_zero, List.set_cons_succ, if_true, Bool.false_eq_true, if_false, ↓reduceIte, decide_true, decide_false, decide_eq_true_eq, Option.elim_some, Option.map_some, String.reduceBEq, Bool.or_false, Bool.false_or, Bool.or_true, Bool.true_or, Bool.not_true, Bool.not_false, ne_eq, not_true_eq_false, not_false_eq_true, List.cons_append, List.nil_append, List.replicate, append_ap, th3, call_v2 x1, call_v2 x2, call_v2 x3, call_v2 u1, call_v2 u2]
  rfl
theorem dotA_ev {L n1 d1 e1 n2 d2 e2 : Nat} {s t : T3} (ha : P3P L n1 d1 e1 s) (hb : P3P L n2 d2 e2 t) {xs : List Int} (hx : xs.length = L) : evL (dotA s t) xs = dotP (ev3 s xs) (ev3 t xs) := by
  have q1 := (timesA_pol (n := n1 * n2) (d := d1 + d2) (e := e1 + e2) ha.a hb.a (Nat.le_refl _) (Nat.le_refl _) (Nat.le_refl _))
  have q2 := (timesA_pol (n := n1 * n2) (d := d1 + d2) (e := e1 + e2) ha.b hb.b (Nat.le_refl _) (Nat.le_refl _) (Nat.le_refl _))
  have q3 := plusA_pol (n := n1 * n2 + n1 * n2) (d := d1 + d2) (e := e1 + e2 + 1) q1 q2 (Nat.le_refl _) (Nat.le_refl _) (Nat.le_refl _) (by omega) (by omega)
  unfold dotA dotP ev3
  rw [plusA_ev q3.nf, plusA_ev q1.nf, timesA_ev ha.a.nf hb.a.nf hx, timesA_ev ha.b.nf hb.b.nf hx, timesA_ev ha.c.nf hb.c.nf hx]
/-! ### rows of sums -/
def thL (ts : List AL) : D := .tuple (ts.map smF)
def PL (L n d e : Nat) (ts : List AL) : Prop := ∀ t ∈ ts, Pol L n d e t
theorem PL.mono {L n d e n' d' e' : Nat} {ts : List AL} (h : PL L n d e ts) (h1 : n ≤ n') (h2 : d ≤ d') (h3 : e ≤ e') : PL L n' d' e' ts := fun t ht => (h t ht).mono h1 h2 h3
def evT (ts : List AL) (xs : List Int) : List Int := ts.map fun t => evL t xs
/-! ### curves -/
abbrev T6 := AL × AL × AL × AL × AL × AL
def t6L (q : T6) : List AL := [q.1, q.2.1, q.2.2.1, q.2.2.2.1, q.2.2.2.2.1, q.2.2.2.2.2]
def t3L (q : T3) : List AL := [q.1, q.2.1, q.2.2]
theorem th3_L (t : T3) : th3 t = thL (t3L t) := rfl
theorem p3_L {L n d e : Nat} {t : T3} (h : P3P L n d e t) : PL L n d e (t3L t) := fun x hx => by
  simp only [t3L, List.mem_cons, List.mem_nil_iff, or_false] at hx
  rcases hx with rfl | rfl | rfl
  · exact h.a
  · exact h.b
  · exact h.c
theorem l_p3 {L n d e : Nat} {t : T3} (h : PL L n d e (t3L t)) : P3P L n d e t := ⟨h _ (by simp [t3L]), h _ (by simp [t3L]), h _ (by simp [t3L])⟩
def ev6 (q : T6) (xs : List Int) : P6 := (evL q.1 xs, evL q.2.1 xs, evL q.2.2.1 xs, evL q.2.2.2.1 xs, evL q.2.2.2.2.1 xs, evL q.2.2.2.2.2 xs)
def tab0 (q : T6) : T3 := (plusA q.1 q.1, q.2.1, q.2.2.2.1)
def tab1 (q : T6) : T3 := (q.2.1, plusA q.2.2.1 q.2.2.1, q.2.2.2.2.1)
def tab2 (q : T6) : T3 := (q.2.2.2.1, q.2.2.2.2.1, plusA q.2.2.2.2.2 q.2.2.2.2.2)
theorem tabG {L n d e : Nat} {q : T6} (z : ZL L) (h : PL L n d e (t6L q)) (ok : okP n d n d = true) :
    d_raws_table_rows [thL (t6L q)] = .ok (.list [th3 (tab0 q), th3 (tab1 q), th3 (tab2 q)]) [] ∧ P3P L n d (e + 1) (tab0 q) ∧ P3P L n d (e + 1) (tab1 q) ∧ P3P L n d (e + 1) (tab2 q) := by
  obtain ⟨a, b, c, d', e', f⟩ := q
  have ha := h a (by simp [t6L]); have hb := h b (by simp [t6L]); have hc := h c (by simp [t6L])
  have hd := h d' (by simp [t6L]); have he := h e' (by simp [t6L]); have hf := h f (by simp [t6L])
  obtain ⟨x1, y1⟩ := plusS z ha ok
  obtain ⟨x2, y2⟩ := plusS z hc ok
  obtain ⟨x3, y3⟩ := plusS z hf ok
  have m : ∀ {o : AL}, Pol L n d e o → Pol L n d (e + 1) o := fun g => g.mono (Nat.le_refl _) (Nat.le_refl _) (by omega)
  refine ⟨?_, ⟨y1, m hb, m hd⟩, ⟨m hb, y2, m he⟩, ⟨m hd, m he, y3⟩⟩
  unfold d_raws_table_rows b_raws_table_rows
  rw [runD_ap rfl]
  simp only [dnA, List.getElem?_cons_zero, List.getElem?_cons_succ, List.set_cons_zero, List.set_cons_succ, if_true, Bool.false_eq_true, if_false, ↓reduceIte, decide_true, decide_false, decide_eq_true_eq, Option.elim_some, Option.map_some, String.reduceBEq, Bool.or_false, Bool.false_or, Bool.or_true, Bool.true_or, Bool.not_true, Bool.not_false, ne_eq, not_true_eq_false, not_false_eq_true, List.cons_append, List.nil_append, List.replicate, append_ap, thL, t6L, List.map_cons, List.map_nil, put6, call_v2 x1, call_v2 x2, call_v2 x3]
  rfl
theorem tab_ev {L n d e : Nat} {q : T6} (h : PL L n d e (t6L q)) (xs : List Int) : ev3 (tab0 q) xs = row0 (ev6 q xs) ∧ ev3 (tab1 q) xs = row1 (ev6 q xs) ∧ ev3 (tab2 q) xs = row2 (ev6 q xs) := by
  have p : ∀ {a : AL}, a ∈ t6L q → evL (plusA a a) xs = 2 * evL a xs := fun {a} ha => by rw [plusA_ev (h a ha).nf]; omega
  refine ⟨?_, ?_, ?_⟩
  · unfold ev3 tab0 row0 ev6
    rw [p (by simp [t6L])]
  · unfold ev3 tab1 row1 ev6
    rw [p (by simp [t6L])]
  · unfold ev3 tab2 row2 ev6
    rw [p (by simp [t6L])]
theorem ledG {L n1 d1 e1 n2 d2 e2 : Nat} {r0 r1 r2 t : T3} (z : ZL L) (hL : L ≤ 100) (h0 : P3P L n1 d1 e1 r0) (h1 : P3P L n1 d1 e1 r1) (h2 : P3P L n1 d1 e1 r2) (hb : P3P L n2 d2 e2 t) (he : e1 ≤ 1000 ∧ e2 ≤ 1000) (ok : okT n1 d1 n2 d2 = true) (ok2 : okP (n1 * n2 + n1 * n2) (d1 + d2) (n1 * n2) (d1 + d2) = true) :
    d_raws_led_by [.list [th3 r0, th3 r1, th3 r2], th3 t] = .ok (th3 (dotA r0 t, dotA r1 t, dotA r2 t)) [] ∧ P3P L (n1 * n2 + n1 * n2 + n1 * n2) (d1 + d2) (e1 + e2 + 2) (dotA r0 t, dotA r1 t, dotA r2 t) := by
  have g : ∀ r ∈ [r0, r1, r2], P3P L n1 d1 e1 r := fun r hr => by
    simp only [List.mem_cons, List.mem_nil_iff, or_false] at hr
    rcases hr with rfl | rfl | rfl <;> assumption
  refine ⟨?_, (dotG z hL h0 hb he ok ok2).2, (dotG z hL h1 hb he ok ok2).2, (dotG z hL h2 hb he ok ok2).2⟩
  unfold d_raws_led_by b_raws_led_by
  rw [runD_ap rfl]
  simp only [dnA, List.getElem?_cons_zero, List.getElem?_cons_succ, List.set_cons_zero, List.set_cons_succ, if_true, Bool.false_eq_true, if_false, ↓reduceIte, decide_true, decide_false, decide_eq_true_eq, Option.elim_some, Option.map_some, String.reduceBEq, Bool.or_false, Bool.false_or, Bool.or_true, Bool.true_or, Bool.not_true, Bool.not_false, ne_eq, not_true_eq_false, not_false_eq_true, List.cons_append, List.nil_append, List.replicate, append_ap]
  rw [show [th3 r0, th3 r1, th3 r2] = [r0, r1, r2].map th3 from rfl, lcO_over [r0, r1, r2] th3 (fun r => smF (dotA r t)) (fun _ => true), filter_all]
  rotate_left
  · exact fun r hr => ⟨_, rfl, rfl, rfl, fun _ => by simp only [dnA, List.getElem?_cons_zero, List.getElem?_cons_succ, List.set_cons_zero, List.set_cons_succ, if_true, Bool.false_eq_true, if_false, ↓reduceIte, decide_true, decide_false, decide_eq_true_eq, Option.elim_some, Option.map_some, String.reduceBEq, Bool.or_false, Bool.false_or, Bool.or_true, Bool.true_or, Bool.not_true, Bool.not_false, ne_eq, not_true_eq_false, not_false_eq_true, List.cons_append, List.nil_append, List.replicate, append_ap, call_v2 (dotG z hL (g r hr) hb he ok ok2).1]⟩
  · rfl
  · rfl
  · exact Nat.le_of_ble_eq_true rfl
  simp only [dnA, List.getElem?_cons_zero, List.getElem?_cons_succ, List.set_cons_zero, List.set_cons_succ, if_true, Bool.false_eq_true, if_false, ↓reduceIte, decide_true, decide_false, decide_eq_true_eq, Option.elim_some, Option.map_some, String.reduceBEq, Bool.or_false, Bool.false_or, Bool.or_true, Bool.true_or, Bool.not_true, Bool.not_false, ne_eq, not_true_eq_false, not_false_eq_true, List.cons_append, List.nil_append, List.replicate, append_ap, List.map_cons, List.map_nil]
  rfl
theorem swgG {L n d e : Nat} {r0 r1 r2 : T3} (z : ZL L) (hL : L ≤ 100) (h0 : P3P L n d e r0) (h1 : P3P L n d e r1) (h2 : P3P L n d e r2) (he : e ≤ 1000) (ok : okT n d n d = true) (ok2 : okP (n * n) (d + d) (n * n) (d + d) = true) :
    d_raws_turned_rows [.list [th3 r0, th3 r1, th3 r2]] = .ok (.list [th3 (crossA r1 r2), th3 (crossA r2 r0), th3 (crossA r0 r1)]) [] := by
  unfold d_raws_turned_rows b_raws_turned_rows
  rw [runD_ap rfl]
  simp only [dnA, List.getElem?_cons_zero, List.getElem?_cons_succ, List.set_cons_zero, List.set_cons_succ, if_true, Bool.false_eq_true, if_false, ↓reduceIte, decide_true, decide_false, decide_eq_true_eq, Option.elim_some, Option.map_some, String.reduceBEq, Bool.or_false, Bool.false_or, Bool.or_true, Bool.true_or, Bool.not_true, Bool.not_false, ne_eq, not_true_eq_false, not_false_eq_true, List.cons_append, List.nil_append, List.replicate, append_ap, call_v2 (crossG z hL h1 h2 ⟨he, he⟩ ok ok2).1, call_v2 (crossG z hL h2 h0 ⟨he, he⟩ ok ok2).1, call_v2 (crossG z hL h0 h1 ⟨he, he⟩ ok ok2).1]
def ledA (r0 r1 r2 t : T3) : T3 := (dotA r0 t, dotA r1 t, dotA r2 t)
theorem evT_t3 (u : T3) (xs : List Int) : evT (t3L u) xs = lstP (ev3 u xs) := rfl
theorem led_ev {L n1 d1 e1 n2 d2 e2 : Nat} {r0 r1 r2 t : T3} (h0 : P3P L n1 d1 e1 r0) (h1 : P3P L n1 d1 e1 r1) (h2 : P3P L n1 d1 e1 r2) (hb : P3P L n2 d2 e2 t) {xs : List Int} (hx : xs.length = L) :
    ev3 (ledA r0 r1 r2 t) xs = (dotP (ev3 r0 xs) (ev3 t xs), dotP (ev3 r1 xs) (ev3 t xs), dotP (ev3 r2 xs) (ev3 t xs)) := by
  unfold ledA
  show (evL (dotA r0 t) xs, evL (dotA r1 t) xs, evL (dotA r2 t) xs) = _
  rw [dotA_ev h0 hb hx, dotA_ev h1 hb hx, dotA_ev h2 hb hx]
theorem dot_turn (u v w : P3) : dotP u (crossP v w) = turnP u v w := by
  obtain ⟨a, b, c⟩ := u
  obtain ⟨d, e, f⟩ := v
  obtain ⟨p, q, r⟩ := w
  simp only [dotP, crossP, turnP]
  grind
/-! ### one row's raw -/
abbrev Nm := List (List AL)
def thsD (ts : Nm) : D := .list (ts.map thL)
def many (w : Wd) : Nat := if w.sr = .curve then 6 else 3
def shp (L : Nat) (x : Sr) (t : List AL) : Prop := t.length = (if x = .curve then 6 else 3) ∧ PL L 1 1 40 t
def TFit (L : Nat) (rs : List Rw) (ts : Nm) : Prop := ts.length = rs.length ∧ ∀ (k : Nat) (r : Rw), rs[k]? = some r → ∃ t, ts[k]? = some t ∧ shp L r.1.sr t
def nm (ts : Nm) (args : List Int) : Nm := args.map fun i => (ts[i.toNat]?).getD []
theorem nm_shp {L : Nat} {rs : List Rw} {ts : Nm} {xs : List Sr} {args : List Int} (F : TFit L rs ts) (A : ArgsOk rs xs args) : (nm ts args).length = xs.length ∧ ∀ (i : Nat) (x : Sr), xs[i]? = some x → ∃ t, (nm ts args)[i]? = some t ∧ shp L x t := by
  refine ⟨by unfold nm; rw [List.length_map]; exact A.1, fun i x hx => ?_⟩
  obtain ⟨k, r, h1, h2, h3⟩ := A.2 i x hx
  obtain ⟨t, h4, h5⟩ := F.2 k r h2
  refine ⟨t, ?_, h3 ▸ h5⟩
  unfold nm
  rw [List.getElem?_map, h1]
  show some ((ts[((k : Nat) : Int).toNat]?).getD []) = _
  rw [Int.toNat_natCast, h4]
  rfl
theorem nm_at {L : Nat} {rs : List Rw} {ts : Nm} {xs : List Sr} {args : List Int} (F : TFit L rs ts) (A : ArgsOk rs xs args) : ∀ i ∈ args, at_ (ts.map thL) i = some (thL ((ts[i.toNat]?).getD [])) := fun i hi => by
  obtain ⟨j, hj⟩ := List.getElem?_of_mem hi
  have hjl : j < xs.length := by rw [← A.1]; exact (List.getElem?_eq_some_iff.mp hj).1
  obtain ⟨k, r, h1, h2, h3⟩ := A.2 j xs[j] (List.getElem?_eq_getElem hjl)
  rw [hj] at h1
  cases h1
  obtain ⟨t, h4, h5⟩ := F.2 k r h2
  have hk : k < ts.length := (List.getElem?_eq_some_iff.mp h4).1
  rw [at_nat k (by simpa using hk), List.getElem?_map, Int.toNat_natCast, h4]
  rfl
theorem shp3 {L : Nat} {x : Sr} {t : List AL} (h : shp L x t) (hx : x ≠ .curve) : ∃ u : T3, t = t3L u ∧ P3P L 1 1 40 u := by
  obtain ⟨h1, h2⟩ := h
  rw [if_neg hx] at h1
  match t, h1 with
  | [a, b, c], _ => exact ⟨(a, b, c), rfl, l_p3 h2⟩
theorem shp6 {L : Nat} {t : List AL} (h : shp L .curve t) : ∃ u : T6, t = t6L u ∧ PL L 1 1 40 (t6L u) := by
  obtain ⟨h1, h2⟩ := h
  rw [if_pos rfl] at h1
  match t, h1 with
  | [a, b, c, d, e, f], _ => exact ⟨(a, b, c, d, e, f), rfl, h2⟩
def lp (l : List Int) : P3 := (l.getD 0 0, l.getD 1 0, l.getD 2 0)
def lq (l : List Int) : P6 := (l.getD 0 0, l.getD 1 0, l.getD 2 0, l.getD 3 0, l.getD 4 0, l.getD 5 0)
theorem lp_ev (u : T3) (xs : List Int) : lp (evT (t3L u) xs) = ev3 u xs := rfl
theorem lq_ev (u : T6) (xs : List Int) : lq (evT (t6L u) xs) = ev6 u xs := rfl
end Dn


/-! DtX: letter sums in the law: at, sum_good, part, thing. -/
namespace Dn
open PySem
theorem mono_snoc : ∀ (ks ys : List Int) (k : Nat) (e y : Int), ks[k]? = some e → ys[k]? = some y → mono (ks.take (k + 1)) (ys.take (k + 1)) = mono (ks.take k) (ys.take k) * y ^ e.toNat
  | [], _, _, _, _, h1, _ => by simp at h1
  | _ :: _, [], _, _, _, _, h2 => by simp at h2
  | a :: ks, b :: ys, 0, e, y, h1, h2 => by
    have h1 : a = e := by simpa using h1
    have h2 : b = y := by simpa using h2
    subst h1 h2
    show b ^ a.toNat * mono (ks.take 0) (ys.take 0) = 1 * b ^ a.toNat
    simp [mono]
  | a :: ks, b :: ys, k + 1, e, y, h1, h2 => by
    have ih := mono_snoc ks ys k e y (by simpa using h1) (by simpa using h2)
    show b ^ a.toNat * mono (ks.take (k + 1)) (ys.take (k + 1)) = b ^ a.toNat * mono (ks.take k) (ys.take k) * _
    rw [ih, Int.mul_assoc]
theorem lg_powB {x : Int} (hx : lg x ≤ 1000) : ∀ k : Nat, lg (x ^ k) ≤ 1002 * k
  | 0 => by rw [Int.pow_zero]; decide
  | k + 1 => by
    rw [Int.pow_succ]
    have := lg_mul (x ^ k) x
    have := lg_powB hx k
    omega
theorem at_ok {L : Nat} {one : AL} {xs : List Int} (hx : xs.length = L) (hL : L ≤ 100) (hk : ∀ p ∈ one, p.1.length = L) (he : ∀ p ∈ one, ∀ e ∈ p.1, 0 ≤ e ∧ e ≤ 60) (hc : ∀ p ∈ one, lg p.2 ≤ 20000000) (hb : ∀ x ∈ xs, lg x ≤ 1000) :
    d_law_law_at [smF one, .tuple (xs.map PyData.int)] = .ok (.int (evL one xs)) [] := by
  unfold d_law_law_at b_law_law_at
  rw [runD_ap rfl]
  simp only [dnA, List.getElem?_cons_zero, List.getElem?_cons_succ, List.set_cons_zero, List.set_cons_succ, if_true, Bool.false_eq_true, if_false, ↓reduceIte, decide_true, decide_false, decide_eq_true_eq, Option.elim_some, Option.map_some, String.reduceBEq, Bool.or_false, Bool.false_or, Bool.or_true, Bool.true_or, Bool.not_true, Bool.not_false, ne_eq, not_true_eq_false, not_false_eq_true, List.cons_append, List.nil_append, List.replicate, append_ap, forI_ap, items_sm]
  generalize hg : forN _ _ _ _ _ _ _ = g
  obtain ⟨ρ', rfl, s3, s4, s5, s6, s7, h⟩ := forN_inv' hg rfl (fun k ρ => ∃ s3 s4 s5 s6 s7 : Slot, ρ = [.val (smF one), .val (.tuple (xs.map PyData.int)), .val (.int (evL (one.take k) xs)), s3, s4, s5, s6, s7]) ⟨_, _, _, _, _, rfl⟩ (fun k d ρ hd hP => by
    obtain ⟨s3, s4, s5, s6, s7, rfl⟩ := hP
    rw [List.getElem?_map] at hd
    cases hkk : one[k]? with
    | none => rw [hkk] at hd; cases hd
    | some p =>
      rw [hkk] at hd
      cases hd
      have hp : p ∈ one := List.mem_of_getElem? hkk
      have hlen := hk p hp
      have e1 : evL (one.take (k + 1)) xs = evL (one.take k) xs + p.2 * mono p.1 xs := by
        rw [List.take_add_one, hkk, evL_app]
        show _ + evL [p] xs = _
        rw [evL_cons, evL_nil, Int.add_zero]
      have lgP : ∀ j, j ≤ L → lg (p.2 * mono (p.1.take j) (xs.take j)) ≤ 20000000 + 70000 * j := by
        intro j
        induction j with
        | zero => intro _; simpa [mono] using hc p hp
        | succ j ih =>
          intro hj
          have a1 : p.1[j]? = some p.1[j] := List.getElem?_eq_getElem (by omega)
          have a2 : xs[j]? = some xs[j] := List.getElem?_eq_getElem (by omega)
          rw [mono_snoc _ _ _ _ _ a1 a2, ← Int.mul_assoc]
          have b1 := lg_mul (p.2 * mono (p.1.take j) (xs.take j)) (xs[j] ^ (p.1[j]).toNat)
          have b2 := lg_powB (hb xs[j] (List.getElem_mem _)) (p.1[j]).toNat
          have b3 := he p hp p.1[j] (List.getElem_mem _)
          have := ih (by omega)
          omega
      refine ⟨_, tg_tm, ?_⟩
      simp only [dnA, List.getElem?_cons_zero, List.getElem?_cons_succ, List.set_cons_zero, List.set_cons_succ, if_true, Bool.false_eq_true, if_false, ↓reduceIte, decide_true, decide_false, decide_eq_true_eq, Option.elim_some, Option.map_some, String.reduceBEq, Bool.or_false, Bool.false_or, Bool.or_true, Bool.true_or, Bool.not_true, Bool.not_false, ne_eq, not_true_eq_false, not_false_eq_true, List.cons_append, List.nil_append, List.replicate, append_ap, forI_ap, zipM, zipL, kD]
      generalize hg2 : forN _ _ _ _ _ _ _ = g2
      obtain ⟨ρ2, rfl, t5, t6, t7, h2⟩ := forN_inv' hg2 (by simp) (fun j ρ => ∃ t5 t6 t7 : Slot, ρ = [.val (smF one), .val (.tuple (xs.map PyData.int)), .val (.int (evL (one.take k) xs)), .val (.tuple (p.1.map PyData.int)), .val (.int (p.2 * mono (p.1.take j) (xs.take j))), t5, t6, t7]) ⟨s5, s6, s7, by rw [show mono (p.1.take 0) (xs.take 0) = 1 from rfl, Int.mul_one]⟩ (fun j d ρ hd hP => by
        obtain ⟨t5, t6, t7, rfl⟩ := hP
        obtain ⟨dx, dy, g1, g2, rfl⟩ := zip_at hd
        rw [List.getElem?_map] at g1 g2
        cases ha1 : p.1[j]? with
        | none => rw [ha1] at g1; cases g1
        | some e =>
        cases ha2 : xs[j]? with
        | none => rw [ha2] at g2; cases g2
        | some y =>
          rw [ha1] at g1
          rw [ha2] at g2
          cases g1
          cases g2
          have hj : j < L := by have := (List.getElem?_eq_some_iff.mp ha2).1; omega
          have he' := he p hp e (List.mem_of_getElem? ha1)
          have hy := hb y (List.mem_of_getElem? ha2)
          have lj := lgP j (by omega)
          rw [mono_snoc _ _ _ _ _ ha1 ha2, ← Int.mul_assoc]
          generalize p.2 * mono (p.1.take j) (xs.take j) = P at lj ⊢
          refine ⟨_, rfl, ?_⟩
          simp only [dnA, List.getElem?_cons_zero, List.getElem?_cons_succ, List.set_cons_zero, List.set_cons_succ, if_true, Bool.false_eq_true, if_false, ↓reduceIte, decide_true, decide_false, decide_eq_true_eq, Option.elim_some, Option.map_some, String.reduceBEq, Bool.or_false, Bool.false_or, Bool.or_true, Bool.true_or, Bool.not_true, Bool.not_false, ne_eq, not_true_eq_false, not_false_eq_true, List.cons_append, List.nil_append, List.replicate, append_ap, forI_ap, range1_int (i := e) (by omega) (by omega)]
          generalize hg3 : forN _ _ _ _ _ _ _ = g3
          obtain ⟨ρ3, rfl, u7, h3⟩ := forN_inv' hg3 rfl (fun i ρ => ∃ u7 : Slot, ρ = [.val (smF one), .val (.tuple (xs.map PyData.int)), .val (.int (evL (one.take k) xs)), .val (.tuple (p.1.map PyData.int)), .val (.int (P * y ^ i)), .val (.int e), .val (.int y), u7]) ⟨t7, by rw [Int.pow_zero, Int.mul_one]⟩ (fun i d ρ hd hP => by
            obtain ⟨u7, rfl⟩ := hP
            obtain ⟨rfl, hi⟩ := rangeL_get hd
            have b1 := lg_mul P (y ^ i)
            have b2 := lg_powB hy i
            refine ⟨_, rfl, [.val (smF one), .val (.tuple (xs.map PyData.int)), .val (.int (evL (one.take k) xs)), .val (.tuple (p.1.map PyData.int)), .val (.int (P * y ^ (i + 1))), .val (.int e), .val (.int y), .val (.int (0 + (i : Int)))], .inl ?_, _, rfl⟩
            rw [Int.pow_succ, ← Int.mul_assoc]
            simp only [dnA, List.getElem?_cons_zero, List.getElem?_cons_succ, List.set_cons_zero, List.set_cons_succ, if_true, Bool.false_eq_true, if_false, ↓reduceIte, decide_true, decide_false, decide_eq_true_eq, Option.elim_some, Option.map_some, String.reduceBEq, Bool.or_false, Bool.false_or, Bool.or_true, Bool.true_or, Bool.not_true, Bool.not_false, ne_eq, not_true_eq_false, not_false_eq_true, List.cons_append, List.nil_append, List.replicate, append_ap, mulB (P * y ^ i) y (by omega) (by omega)])
          rw [rangeL_len, show (e - 0).toNat = e.toNat by omega] at h3
          exact ⟨_, .inl rfl, _, _, _, h3⟩)
      have hz : (((p.1.map PyData.int).zip (xs.map PyData.int)).map fun q => PyData.tuple [q.1, q.2]).length = L := by simp; omega
      rw [hz, show p.1.take L = p.1 from List.take_of_length_le (by omega), show xs.take L = xs from List.take_of_length_le (by omega)] at h2
      subst h2
      rw [e1]
      simp only [dnA, List.getElem?_cons_zero, List.getElem?_cons_succ, List.set_cons_zero, List.set_cons_succ, if_true, Bool.false_eq_true, if_false, ↓reduceIte, decide_true, decide_false, decide_eq_true_eq, Option.elim_some, Option.map_some, String.reduceBEq, Bool.or_false, Bool.false_or, Bool.or_true, Bool.true_or, Bool.not_true, Bool.not_false, ne_eq, not_true_eq_false, not_false_eq_true, List.cons_append, List.nil_append, List.replicate, append_ap]
      exact ⟨_, .inl rfl, _, _, _, _, _, rfl⟩)
  rw [List.length_map, List.take_length] at h
  rw [h]
  simp only [dnA, List.getElem?_cons_zero, List.getElem?_cons_succ, List.set_cons_zero, List.set_cons_succ, if_true, Bool.false_eq_true, if_false, ↓reduceIte, decide_true, decide_false, decide_eq_true_eq, Option.elim_some, Option.map_some, String.reduceBEq, Bool.or_false, Bool.false_or, Bool.or_true, Bool.true_or, Bool.not_true, Bool.not_false, ne_eq, not_true_eq_false, not_false_eq_true, List.cons_append, List.nil_append, List.replicate, append_ap]
theorem min0 {ns : List Int} (h : ∀ x ∈ ns, 0 ≤ x) : ∃ m, minLD [.list (PyData.int 0 :: ns.map PyData.int)] = some (.int m) ∧ 0 ≤ m := by
  refine ⟨minL ns 0, ?_, ?_⟩
  · show (match allInts ((0 :: ns).map PyData.int) with
      | some (x :: xs) => some (PyData.int (minL xs x))
      | _ => none) = _
    rw [allInts_mk]
  · obtain ⟨h1, _, _⟩ := minL_mem ns 0
    rcases h1 with e | e
    · rw [e]; exact Int.le_refl _
    · exact h _ e
theorem srt_strict {L n d e : Nat} {o : AL} (h : Pol L n d e o) {i j : Nat} {p q : List Int × Int} (hij : i < j) (hi : o[i]? = some p) (hj : o[j]? = some q) : lexL p.1 q.1 = true := by
  have hk : ∀ {i : Nat} {p : List Int × Int}, o[i]? = some p → (keysA o)[i]? = some p.1 := fun {i p} h => by unfold keysA; rw [List.getElem?_map, h]; rfl
  obtain ⟨l1, e1⟩ := List.getElem?_eq_some_iff.mp (hk hi)
  obtain ⟨l2, e2⟩ := List.getElem?_eq_some_iff.mp (hk hj)
  have s := List.pairwise_iff_getElem.mp h.srt i j l1 l2 hij
  have nd := List.pairwise_iff_getElem.mp h.nf.nd i j l1 l2 hij
  rw [e1, e2] at s nd
  cases hl : lexL p.1 q.1 with
  | true => rfl
  | false => exact absurd (lexL_tot hl s) nd
theorem good_ok {L n d e : Nat} {o : AL} (hL : L ≤ 1000) (h : Pol L n d e o) : d_law_law_sum_good [smF o, .int L] = .ok (.bool true) [] := by
  unfold d_law_law_sum_good b_law_law_sum_good
  rw [runD_ap rfl]
  have it : isiD "tuple" (smF o) = some (.bool true) := rfl
  simp only [dnA, List.getElem?_cons_zero, List.getElem?_cons_succ, List.set_cons_zero, List.set_cons_succ, if_true, Bool.false_eq_true, if_false, ↓reduceIte, decide_true, decide_false, decide_eq_true_eq, Option.elim_some, Option.map_some, String.reduceBEq, Bool.or_false, Bool.false_or, Bool.or_true, Bool.true_or, Bool.not_true, Bool.not_false, ne_eq, not_true_eq_false, not_false_eq_true, List.cons_append, List.nil_append, List.replicate, append_ap, it, forI_ap, items_sm]
  generalize hg : forN _ _ _ _ _ _ _ = g
  obtain ⟨ρ', rfl, s2, s3, s4, hs, rfl⟩ := forN_inv' hg rfl (fun k ρ => ∃ s2 s3 s4 : Slot, ((k = 0 ∧ s2 = .val .none) ∨ (∃ p, 0 < k ∧ o[k - 1]? = some p ∧ s2 = .val (kD p.1))) ∧ ρ = [.val (smF o), .val (.int L), s2, s3, s4]) ⟨_, _, _, .inl ⟨rfl, rfl⟩, rfl⟩ (fun k d ρ hd hP => by
    obtain ⟨s2, s3, s4, hs, rfl⟩ := hP
    rw [List.getElem?_map] at hd
    cases hkk : o[k]? with
    | none => rw [hkk] at hd; cases hd
    | some p =>
      rw [hkk] at hd
      cases hd
      have hpm : p ∈ o := List.mem_of_getElem? hkk
      have i1 : isiD "tuple" (tmD p) = some (.bool true) := rfl
      have i2 : isiD "tuple" (kD p.1) = some (.bool true) := rfl
      have i3 : ixD (tmD p) (.int 0) = some (kD p.1) := rfl
      have i4 : ixD (tmD p) (.int 1) = some (.int p.2) := rfl
      have i5 : lenD [tmD p] = some (.int 2) := rfl
      have i6 : lenD [kD p.1] = some (.int (L : Nat)) := by
        show some (PyData.int ((p.1.map PyData.int).length : Nat)) = _
        rw [List.length_map, h.nf.len p hpm]
      have i7 : listD [kD p.1] = some (.list (p.1.map PyData.int)) := rfl
      obtain ⟨m, hm, hm0⟩ := min0 (h.nf.pos p hpm)
      have hm1 : ¬ (m < 0) := by omega
      have hz : ¬ (p.2 = 0) := h.nf.nz p hpm
      have ha : addD (.list (p.1.map PyData.int)) (.list [.int p.2]) = some (.list (p.1.map PyData.int ++ [.int p.2])) := addD_lst (by simp; rw [h.nf.len p hpm]; omega)
      have ha2 : addD (.list [.int 0]) (.list (p.1.map PyData.int)) = some (.list (.int 0 :: p.1.map PyData.int)) := addD_lst (by simp; rw [h.nf.len p hpm]; omega)
      have hLL : neD (.int (L : Nat)) (.int (L : Nat)) = some (.bool false) := by rw [neD_int]; simp
      refine ⟨_, rfl, ?_⟩
      simp only [dnA, List.getElem?_cons_zero, List.getElem?_cons_succ, List.set_cons_zero, List.set_cons_succ, if_true, Bool.false_eq_true, if_false, ↓reduceIte, decide_true, decide_false, decide_eq_true_eq, Option.elim_some, Option.map_some, String.reduceBEq, Bool.or_false, Bool.false_or, Bool.or_true, Bool.true_or, Bool.not_true, Bool.not_false, ne_eq, not_true_eq_false, not_false_eq_true, List.cons_append, List.nil_append, List.replicate, append_ap, i1, i2, i3, i4, i5, i6, i7, hLL, ha, forI_ap]
      generalize hg2 : forN _ _ _ _ _ _ _ = g2
      obtain ⟨ρ2, rfl, t4, rfl⟩ := forN_inv' hg2 rfl (fun j ρ => ∃ t4 : Slot, ρ = [.val (smF o), .val (.int L), s2, .val (tmD p), t4]) ⟨_, rfl⟩ (fun j d ρ hd hP => by
        obtain ⟨t4, rfl⟩ := hP
        have hi : ∃ i, d = .int i := by
          have := List.mem_of_getElem? hd
          rcases List.mem_append.mp this with h | h
          · obtain ⟨i, _, rfl⟩ := List.mem_map.mp h
            exact ⟨i, rfl⟩
          · simp at h
            exact ⟨_, h⟩
        obtain ⟨i, rfl⟩ := hi
        refine ⟨_, rfl, [.val (smF o), .val (.int L), s2, .val (tmD p), .val (.int i)], .inl ?_, _, rfl⟩
        simp only [dnA, List.getElem?_cons_zero, List.getElem?_cons_succ, List.set_cons_zero, List.set_cons_succ, if_true, Bool.false_eq_true, if_false, ↓reduceIte, decide_true, decide_false, decide_eq_true_eq, Option.elim_some, Option.map_some, String.reduceBEq, Bool.or_false, Bool.false_or, Bool.or_true, Bool.true_or, Bool.not_true, Bool.not_false, ne_eq, not_true_eq_false, not_false_eq_true, List.cons_append, List.nil_append, List.replicate, append_ap])
      rcases hs with ⟨rfl, rfl⟩ | ⟨q, h0, hq, rfl⟩
      · refine ⟨[.val (smF o), .val (.int L), .val (kD p.1), .val (tmD p), t4], .inl ?_, _, _, _, .inr ⟨p, Nat.succ_pos _, by simpa using hkk, rfl⟩, rfl⟩
        have nn : notNoneD .none .none = some (.bool false) := rfl
        simp only [dnA, List.getElem?_cons_zero, List.getElem?_cons_succ, List.set_cons_zero, List.set_cons_succ, if_true, Bool.false_eq_true, if_false, ↓reduceIte, decide_true, decide_false, decide_eq_true_eq, Option.elim_some, Option.map_some, String.reduceBEq, Bool.or_false, Bool.false_or, Bool.or_true, Bool.true_or, Bool.not_true, Bool.not_false, ne_eq, not_true_eq_false, not_false_eq_true, List.cons_append, List.nil_append, List.replicate, append_ap, i3, i4, i7, ha2, hm, hm1, hz, nn]
      · refine ⟨[.val (smF o), .val (.int L), .val (kD p.1), .val (tmD p), t4], .inl ?_, _, _, _, .inr ⟨p, Nat.succ_pos _, by simpa using hkk, rfl⟩, rfl⟩
        have nn : notNoneD (kD q.1) .none = some (.bool true) := rfl
        have lt : ltTD (kD q.1) (kD p.1) = some (.bool true) := by
          have e1 : ∀ k : List Int, intTup (kD k) = some k := fun k => allInts_mk k
          unfold ltTD
          rw [e1, e1]
          show some (PyData.bool (lexL q.1 p.1)) = _
          rw [srt_strict h (by omega) hq hkk]
        simp only [dnA, List.getElem?_cons_zero, List.getElem?_cons_succ, List.set_cons_zero, List.set_cons_succ, if_true, Bool.false_eq_true, if_false, ↓reduceIte, decide_true, decide_false, decide_eq_true_eq, Option.elim_some, Option.map_some, String.reduceBEq, Bool.or_false, Bool.false_or, Bool.or_true, Bool.true_or, Bool.not_true, Bool.not_false, ne_eq, not_true_eq_false, not_false_eq_true, List.cons_append, List.nil_append, List.replicate, append_ap, i3, i4, i7, ha2, hm, hm1, hz, nn, lt])
  simp only [dnA, List.getElem?_cons_zero, List.getElem?_cons_succ, List.set_cons_zero, List.set_cons_succ, if_true, Bool.false_eq_true, if_false, ↓reduceIte, decide_true, decide_false, decide_eq_true_eq, Option.elim_some, Option.map_some, String.reduceBEq, Bool.or_false, Bool.false_or, Bool.or_true, Bool.true_or, Bool.not_true, Bool.not_false, ne_eq, not_true_eq_false, not_false_eq_true, List.cons_append, List.nil_append, List.replicate, append_ap]
/-! ### drawn parts -/
def hot (L : Nat) (a : Int) : List Int := (List.range L).map fun (i : Nat) => if (i : Int) = a then 1 else 0
theorem hot_lc {L : Nat} {k : Int} {ρ : Env} {w j : Nat} (h10 : ρ[j]? = some .un) (hw : ρ[w]? = some (.val (.int k))) (hne : w ≠ j) (hL : L ≤ 1000) :
    lcO (ofL (rangeL 0 (L : Int))) always (.nm j) [j] yes (eN intD [e2 eqD (v j) (v w)]) (rangeL 0 (L : Int)).length ρ = .ok (.val (.list ((hot L k).map PyData.int))) ρ := by
  have back0 : ρ.set j .un = ρ := by
    apply List.ext_getElem?
    intro i
    by_cases e : j = i
    · subst e
      rw [List.getElem?_set_self (List.getElem?_eq_some_iff.mp h10).1, h10]
    · rw [List.getElem?_set_ne e]
  rw [rangeL_nat, lcO_over (List.range L) (fun k => PyData.int (k : Nat)) (fun i => PyData.int (if (i : Int) = k then 1 else 0)) (fun _ => true), filter_all]
  rotate_left
  · intro i _
    refine ⟨_, rfl, rfl, ?_, fun _ => ?_⟩
    · show (ρ.set j (.val (.int (i : Nat)))).set j .un = ρ
      rw [List.set_set, back0]
    · have g1 : (ρ.set j (.val (.int (i : Nat))))[j]? = some (.val (.int (i : Nat))) := List.getElem?_set_self (List.getElem?_eq_some_iff.mp h10).1
      have g2 : (ρ.set j (.val (.int (i : Nat))))[w]? = some (.val (.int k)) := by rw [List.getElem?_set_ne (fun e => hne e.symm)]; exact hw
      simp only [dnA, List.getElem?_cons_zero, List.getElem?_cons_succ, List.set_cons_zero, List.set_cons_succ, if_true, Bool.false_eq_true, if_false, ↓reduceIte, decide_true, decide_false, decide_eq_true_eq, Option.elim_some, Option.map_some, String.reduceBEq, Bool.or_false, Bool.false_or, Bool.or_true, Bool.true_or, Bool.not_true, Bool.not_false, ne_eq, not_true_eq_false, not_false_eq_true, List.cons_append, List.nil_append, List.replicate, append_ap, g1, g2]
  · exact back0
  · show ρ.set j (match ρ[j]? with | some (Slot.val d) => Slot.val d | _ => Slot.un) = ρ
    rw [h10]
    exact back0
  · simp; omega
  unfold hot
  rw [List.map_map]
  rfl
theorem repI (L : Nat) (x : Int) : List.replicate L (PyData.int x) = (List.replicate L x).map PyData.int := by rw [List.map_replicate]
structure PartOk (L : Nat) (ps : AL) : Prop where
  len : ∀ p ∈ ps, p.1.length = L
  low : ∀ p ∈ ps, ∀ x ∈ p.1, 0 ≤ x ∧ x ≤ 1
  num : ∀ p ∈ ps, p.2.natAbs ≤ 1000000000
  nd : (keysA ps).Nodup
  few : ps.length ≤ cap L 1 1
theorem part_ok {a b : Int} (B : BagOk a b) {L : Nat} (hL : L ≤ 100) (h1 : L ≠ 1) {top : Int} (ht : 0 ≤ top) (ht2 : top ≤ 1000000000) :
    ∃ (a' b' : Int) (ps : AL), BagOk a' b' ∧ PartOk L ps ∧ d_law_law_part [.list [.int a, .int b], .int L, .int top] = .ok (.list (ps.map tmD)) [.list [.int a', .int b']] := by
  have d1 := draw_ok B (m := 4) (by decide) (by decide)
  have B1 := drawOk B (m := 4) (by decide)
  obtain ⟨r1, r1'⟩ := drawR_lt (a := a) (b := b) (m := 4) (by decide)
  generalize drawR a b 4 = way at d1 r1 r1'
  generalize drawA a 4 = a1 at d1 B1
  generalize drawB a b = b1 at d1 B1
  have hm2 : mulD (.int 2) (.int top) = some (.int (2 * top)) := mulB _ _ (by decide) (Nat.le_trans (lg_lt (k := 31) (by omega)) (by decide))
  have mp : (0 : Int) < 2 * top + 1 := by omega
  have d2 := draw_okL B1 mp (Nat.lt_of_le_of_lt (lg_lt (k := 32) (by omega)) (by decide))
  have B2 := drawOk B1 mp
  obtain ⟨r2, r2'⟩ := drawR_lt (a := a1) (b := b1) mp
  generalize drawR a1 b1 (2 * top + 1) = nu at d2 r2 r2'
  generalize drawA a1 (2 * top + 1) = a2 at d2 B2
  generalize drawB a1 b1 = b2 at d2 B2
  have cap1 : 1 ≤ cap L 1 1 := by unfold cap; split <;> omega
  have one : ∀ k : List Int, k.length = L → (∀ x ∈ k, 0 ≤ x ∧ x ≤ 1) → PartOk L [(k, nu - top)] := fun k h1 h2 => by
    refine ⟨fun p hp => ?_, fun p hp => ?_, fun p hp => ?_, by simp [keysA], cap1⟩ <;> (simp at hp; subst hp)
    · exact h1
    · exact h2
    · show (nu - top).natAbs ≤ _; omega
  have z0 : (List.replicate L (0 : Int)).length = L := by simp
  have z1 : ∀ x ∈ List.replicate L (0 : Int), 0 ≤ x ∧ x ≤ 1 := fun x hx => by have := List.eq_of_mem_replicate hx; omega
  have mz := mulD_tup (x := .int 0) (i := (L : Int)) (by omega) (by omega)
  have mo := mulD_tup (x := .int 1) (i := (L : Int)) (by omega) (by omega)
  unfold d_law_law_part b_law_law_part
  rw [runD_ap rfl]
  generalize htl : seq (setV 5 _) _ = tl
  by_cases hw : way = 0
  · refine ⟨_, _, _, B2, one _ z0 z1, ?_⟩
    simp only [dnA, List.getElem?_cons_zero, List.getElem?_cons_succ, List.set_cons_zero, List.set_cons_succ, if_true, Bool.false_eq_true, if_false, ↓reduceIte, decide_true, decide_false, decide_eq_true_eq, Option.elim_some, Option.map_some, String.reduceBEq, Bool.or_false, Bool.false_or, Bool.or_true, Bool.true_or, Bool.not_true, Bool.not_false, ne_eq, not_true_eq_false, not_false_eq_true, List.cons_append, List.nil_append, List.replicate, append_ap, dcA, Option.bind_some, List.all_cons, List.all_nil, List.length_cons, List.length_nil, List.isEmpty_nil, List.isEmpty_cons, List.contains_cons, List.contains_nil, Nat.reduceBEq, Nat.reduceAdd, Nat.reduceLeDiff, Bool.and_true, Bool.true_and, d1, d2, hm2, hw, mz, Int.toNat_natCast, repI]
    rfl
  by_cases h0 : L = 0
  · subst h0
    refine ⟨_, _, _, B2, one _ z0 z1, ?_⟩
    simp only [dnA, List.getElem?_cons_zero, List.getElem?_cons_succ, List.set_cons_zero, List.set_cons_succ, if_true, Bool.false_eq_true, if_false, ↓reduceIte, decide_true, decide_false, decide_eq_true_eq, Option.elim_some, Option.map_some, String.reduceBEq, Bool.or_false, Bool.false_or, Bool.or_true, Bool.true_or, Bool.not_true, Bool.not_false, ne_eq, not_true_eq_false, not_false_eq_true, List.cons_append, List.nil_append, List.replicate, append_ap, dcA, Option.bind_some, List.all_cons, List.all_nil, List.length_cons, List.length_nil, List.isEmpty_nil, List.isEmpty_cons, List.contains_cons, List.contains_nil, Nat.reduceBEq, Nat.reduceAdd, Nat.reduceLeDiff, Bool.and_true, Bool.true_and, d1, d2, hm2, hw, mz, Int.toNat_natCast, repI, Int.natCast_zero]
    rfl
  have hL0 : ¬ ((L : Int) = 0) := by omega
  have Lp : (0 : Int) < (L : Int) := by omega
  have d3 := draw_ok B2 (m := (L : Int)) Lp (by omega)
  have B3 := drawOk B2 Lp
  obtain ⟨r3, r3'⟩ := drawR_lt (a := a2) (b := b2) Lp
  generalize drawR a2 b2 (L : Int) = le at d3 r3 r3'
  generalize drawA a2 (L : Int) = a3 at d3 B3
  generalize drawB a2 b2 = b3 at d3 B3
  have hh0 : (hot L le).length = L := by simp [hot]
  have hh1 : ∀ x ∈ hot L le, 0 ≤ x ∧ x ≤ 1 := fun x hx => by
    obtain ⟨i, _, rfl⟩ := List.mem_map.mp hx
    split <;> omega
  simp only [dnA, List.getElem?_cons_zero, List.getElem?_cons_succ, List.set_cons_zero, List.set_cons_succ, if_true, Bool.false_eq_true, if_false, ↓reduceIte, decide_true, decide_false, decide_eq_true_eq, Option.elim_some, Option.map_some, String.reduceBEq, Bool.or_false, Bool.false_or, Bool.or_true, Bool.true_or, Bool.not_true, Bool.not_false, ne_eq, not_true_eq_false, not_false_eq_true, List.cons_append, List.nil_append, List.replicate, append_ap, dcA, Option.bind_some, List.all_cons, List.all_nil, List.length_cons, List.length_nil, List.isEmpty_nil, List.isEmpty_cons, List.contains_cons, List.contains_nil, Nat.reduceBEq, Nat.reduceAdd, Nat.reduceLeDiff, Bool.and_true, Bool.true_and, d1, d2, hm2, hw, hL0]
  rw [← htl]
  simp only [dnA, List.getElem?_cons_zero, List.getElem?_cons_succ, List.set_cons_zero, List.set_cons_succ, if_true, Bool.false_eq_true, if_false, ↓reduceIte, decide_true, decide_false, decide_eq_true_eq, Option.elim_some, Option.map_some, String.reduceBEq, Bool.or_false, Bool.false_or, Bool.or_true, Bool.true_or, Bool.not_true, Bool.not_false, ne_eq, not_true_eq_false, not_false_eq_true, List.cons_append, List.nil_append, List.replicate, append_ap, dcA, Option.bind_some, List.all_cons, List.all_nil, List.length_cons, List.length_nil, List.isEmpty_nil, List.isEmpty_cons, List.contains_cons, List.contains_nil, Nat.reduceBEq, Nat.reduceAdd, Nat.reduceLeDiff, Bool.and_true, Bool.true_and, d3, range1_int (i := (L : Int)) (by omega) (by omega), forI_ap]
  rw [hot_lc (w := 5) rfl rfl (by decide) (by omega)]
  by_cases hb : (2 : Int) < (L : Int)
  · refine ⟨_, _, _, B3, one _ hh0 hh1, ?_⟩
    simp only [dnA, List.getElem?_cons_zero, List.getElem?_cons_succ, List.set_cons_zero, List.set_cons_succ, if_true, Bool.false_eq_true, if_false, ↓reduceIte, decide_true, decide_false, decide_eq_true_eq, Option.elim_some, Option.map_some, String.reduceBEq, Bool.or_false, Bool.false_or, Bool.or_true, Bool.true_or, Bool.not_true, Bool.not_false, ne_eq, not_true_eq_false, not_false_eq_true, List.cons_append, List.nil_append, List.replicate, append_ap, dcA, Option.bind_some, List.all_cons, List.all_nil, List.length_cons, List.length_nil, List.isEmpty_nil, List.isEmpty_cons, List.contains_cons, List.contains_nil, Nat.reduceBEq, Nat.reduceAdd, Nat.reduceLeDiff, Bool.and_true, Bool.true_and, hb]
    rfl
  by_cases hw1 : way = 1
  · refine ⟨_, _, _, B3, one _ hh0 hh1, ?_⟩
    simp only [dnA, List.getElem?_cons_zero, List.getElem?_cons_succ, List.set_cons_zero, List.set_cons_succ, if_true, Bool.false_eq_true, if_false, ↓reduceIte, decide_true, decide_false, decide_eq_true_eq, Option.elim_some, Option.map_some, String.reduceBEq, Bool.or_false, Bool.false_or, Bool.or_true, Bool.true_or, Bool.not_true, Bool.not_false, ne_eq, not_true_eq_false, not_false_eq_true, List.cons_append, List.nil_append, List.replicate, append_ap, dcA, Option.bind_some, List.all_cons, List.all_nil, List.length_cons, List.length_nil, List.isEmpty_nil, List.isEmpty_cons, List.contains_cons, List.contains_nil, Nat.reduceBEq, Nat.reduceAdd, Nat.reduceLeDiff, Bool.and_true, Bool.true_and, hb, hw1]
    rfl
  have h2 : L = 2 := by omega
  subst h2
  have d4 := draw_ok B3 (m := 5) (by decide) (by decide)
  have B4 := drawOk B3 (m := 5) (by decide)
  obtain ⟨r4, r4'⟩ := drawR_lt (a := a3) (b := b3) (m := 5) (by decide)
  generalize drawR a3 b3 5 = n5 at d4 r4 r4'
  generalize drawA a3 5 = a4 at d4 B4
  generalize drawB a3 b3 = b4 at d4 B4
  have hcase : hot 2 le = [1, 0] ∨ hot 2 le = [0, 1] := by
    have : le = 0 ∨ le = 1 := by omega
    rcases this with rfl | rfl
    · exact .inl rfl
    · exact .inr rfl
  by_cases hw2 : way = 2
  · refine ⟨_, _, [(List.replicate 2 0, nu - top), (hot 2 le, n5 - 2)], B4, ?_, ?_⟩
    · refine ⟨fun p hp => ?_, fun p hp => ?_, fun p hp => ?_, ?_, (show 2 ≤ cap 2 1 1 by decide)⟩
      · simp at hp
        rcases hp with rfl | rfl
        · rfl
        · exact hh0
      · simp at hp
        rcases hp with rfl | rfl
        · exact z1
        · exact hh1
      · simp at hp
        rcases hp with rfl | rfl
        · show (nu - top).natAbs ≤ _; omega
        · show (n5 - 2).natAbs ≤ _; omega
      · rcases hcase with e | e <;> simp [keysA, e]
    · simp only [dnA, List.getElem?_cons_zero, List.getElem?_cons_succ, List.set_cons_zero, List.set_cons_succ, if_true, Bool.false_eq_true, if_false, ↓reduceIte, decide_true, decide_false, decide_eq_true_eq, Option.elim_some, Option.map_some, String.reduceBEq, Bool.or_false, Bool.false_or, Bool.or_true, Bool.true_or, Bool.not_true, Bool.not_false, ne_eq, not_true_eq_false, not_false_eq_true, List.cons_append, List.nil_append, List.replicate, append_ap, dcA, Option.bind_some, List.all_cons, List.all_nil, List.length_cons, List.length_nil, List.isEmpty_nil, List.isEmpty_cons, List.contains_cons, List.contains_nil, Nat.reduceBEq, Nat.reduceAdd, Nat.reduceLeDiff, Bool.and_true, Bool.true_and, hb, hw1, hw2, show ¬ ((2 : Int) = 1) by decide, mz, mo, d4, Int.toNat_natCast, repI]
      rfl
  · have d5 := draw_ok B4 (m := 3) (by decide) (by decide)
    have B5 := drawOk B4 (m := 3) (by decide)
    obtain ⟨r5, r5'⟩ := drawR_lt (a := a4) (b := b4) (m := 3) (by decide)
    generalize drawR a4 b4 3 = n3 at d5 r5 r5'
    refine ⟨_, _, [(List.replicate 2 0, n5 - 2), (hot 2 le, nu - top), (List.replicate 2 1, n3 - 1)], B5, ?_, ?_⟩
    · refine ⟨fun p hp => ?_, fun p hp => ?_, fun p hp => ?_, ?_, (show 3 ≤ cap 2 1 1 by decide)⟩
      · simp at hp
        rcases hp with rfl | rfl | rfl
        · rfl
        · exact hh0
        · rfl
      · simp at hp
        rcases hp with rfl | rfl | rfl
        · exact z1
        · exact hh1
        · intro x hx
          simp at hx
          omega
      · simp at hp
        rcases hp with rfl | rfl | rfl
        · show (n5 - 2).natAbs ≤ _; omega
        · show (nu - top).natAbs ≤ _; omega
        · show (n3 - 1).natAbs ≤ _; omega
      · rcases hcase with e | e <;> simp [keysA, e]
    · simp only [dnA, List.getElem?_cons_zero, List.getElem?_cons_succ, List.set_cons_zero, List.set_cons_succ, if_true, Bool.false_eq_true, if_false, ↓reduceIte, decide_true, decide_false, decide_eq_true_eq, Option.elim_some, Option.map_some, String.reduceBEq, Bool.or_false, Bool.false_or, Bool.or_true, Bool.true_or, Bool.not_true, Bool.not_false, ne_eq, not_true_eq_false, not_false_eq_true, List.cons_append, List.nil_append, List.replicate, append_ap, dcA, Option.bind_some, List.all_cons, List.all_nil, List.length_cons, List.length_nil, List.isEmpty_nil, List.isEmpty_cons, List.contains_cons, List.contains_nil, Nat.reduceBEq, Nat.reduceAdd, Nat.reduceLeDiff, Bool.and_true, Bool.true_and, hb, hw1, hw2, mz, mo, d4, d5, Int.toNat_natCast, repI]
      rfl
/-! ### drawn things -/
def srtA (ps : AL) : AL := sortG lexT (ps.filter fun p => decide (p.2 ≠ 0))
theorem sumle {α : Type} {f : α → Nat} {P : Nat} : ∀ {l : List α}, (∀ x ∈ l, f x ≤ P) → (l.map f).sum ≤ l.length * P
  | [], _ => by simp
  | x :: l, h => by
    have := sumle (l := l) fun y m => h y (by simp [m])
    have := h x (by simp)
    simp only [List.map_cons, List.sum_cons, List.length_cons, Nat.add_mul]
    omega
theorem part_pol {L : Nat} {ps : AL} (h : PartOk L ps) : Pol L 1 1 40 (srtA ps) := by
  have pm : (srtA ps).Perm (ps.filter fun p => decide (p.2 ≠ 0)) := sortG_perm _
  have mem : ∀ p ∈ srtA ps, p ∈ ps ∧ p.2 ≠ 0 := fun p hp => by
    have := List.mem_filter.mp (pm.mem_iff.mp hp)
    exact ⟨this.1, of_decide_eq_true this.2⟩
  have hl : (srtA ps).length ≤ ps.length := by rw [pm.length_eq]; exact List.length_filter_le _ _
  have hnd : (keysA (srtA ps)).Nodup := by
    have h1 : (keysA (srtA ps)).Perm (keysA (ps.filter fun p => decide (p.2 ≠ 0))) := pm.map _
    refine h1.nodup_iff.mpr ?_
    exact List.Nodup.sublist (List.Sublist.map _ List.filter_sublist) h.nd
  refine ⟨⟨hnd, fun p hp => h.len p (mem p hp).1, fun p hp x hx => (h.low p (mem p hp).1 x hx).1, fun p hp => (mem p hp).2⟩, ?_, Nat.le_trans hl h.few, fun p hp x hx => by have := (h.low p (mem p hp).1 x hx).2; omega, ?_⟩
  · refine List.pairwise_map.mpr ((sortG_srt ordT _).imp fun {p q} hpq => ?_)
    unfold lexT at hpq
    by_cases e : q.1 = p.1
    · rw [e]; exact lexL_self _
    · rw [if_neg e] at hpq
      exact hpq
  · have h1 : nrm (srtA ps) ≤ (srtA ps).length * 1000000000 := sumle fun p hp => h.num p (mem p hp).1
    have h2 : (srtA ps).length ≤ 4 := Nat.le_trans (Nat.le_trans hl h.few) (by unfold cap; split <;> omega)
    have h3 : (srtA ps).length * 1000000000 ≤ 4 * 1000000000 := Nat.mul_le_mul_right _ h2
    exact Nat.lt_of_le_of_lt (Nat.le_trans h1 h3) (by decide)
theorem sortT_tm (l : AL) : sortTD [.list (l.map tmD)] = some (.list ((sortG lexT l).map tmD)) := by
  show (tmS (l.map tmE)).map (fun ts => PyData.list ((sortG lexT ts).map tmE)) = _
  rw [tmS_mk]
  rfl
theorem thing_ok {a b : Int} (B : BagOk a b) {L : Nat} (hL : L ≤ 100) (h1 : L ≠ 1) {top : Int} (ht : 0 ≤ top) (ht2 : top ≤ 1000000000) (x : Sr) :
    ∃ (a' b' : Int) (t : List AL), BagOk a' b' ∧ shp L x t ∧ d_law_law_thing [.list [.int a, .int b], .int L, sS x.s, .int top] = .ok (thL t) [.list [.int a', .int b']] := by
  obtain ⟨n, hn, hn2⟩ : ∃ n : Nat, (3 : Int) + 3 * (if x = Sr.curve then 1 else 0) = (n : Int) ∧ n = (if x = .curve then 6 else 3) := by
    by_cases e : x = .curve
    · exact ⟨6, by simp [e], by simp [e]⟩
    · exact ⟨3, by simp [e], by simp [e]⟩
  have hq : eqD (sS x.s) (.str (PySem.Str.ofString "curve")) = some (.bool (decide (x = .curve))) := by
    show eqD (.str _) (.str _) = _
    rw [eqD_str, ofS_beq, show "curve" = Sr.s .curve from rfl, Sr.s_eq]
  have hm : mulD (.int 3) (.int (if x = Sr.curve then 1 else 0)) = some (.int (3 * (if x = Sr.curve then 1 else 0))) := mulB _ _ (by decide) (by split <;> decide)
  have hn6 : n ≤ 6 := by rw [hn2]; split <;> omega
  unfold d_law_law_thing b_law_law_thing
  rw [runD_ap rfl]
  generalize htl : (retS (eN tupleD [bv 4])) = tl
  simp only [dnA, List.getElem?_cons_zero, List.getElem?_cons_succ, List.set_cons_zero, List.set_cons_succ, if_true, Bool.false_eq_true, if_false, ↓reduceIte, decide_true, decide_false, decide_eq_true_eq, Option.elim_some, Option.map_some, String.reduceBEq, Bool.or_false, Bool.false_or, Bool.or_true, Bool.true_or, Bool.not_true, Bool.not_false, ne_eq, not_true_eq_false, not_false_eq_true, List.cons_append, List.nil_append, List.replicate, append_ap, hq, hm, hn, forI_ap, range1_int (i := (n : Int)) (by omega) (by omega)]
  generalize hg : forN _ _ _ _ _ _ _ = g
  obtain ⟨ρ1, rfl, a1, b1, t, s5, B1, hk, ht, rfl⟩ := forN_inv' hg rfl (fun k ρ => ∃ (a b : Int) (t : List AL) (s5 : Slot), BagOk a b ∧ t.length = k ∧ PL L 1 1 40 t ∧
      ρ = [.own false (.list [.int a, .int b]), .val (.int L), .val (sS x.s), .val (.int top), .own true (.list (t.map smF)), s5, .un])
    ⟨a, b, [], .un, B, rfl, fun t h => (by cases h), rfl⟩ (fun k d ρ hd hP => by
      obtain ⟨a, b, t, s5, B, hk, ht, rfl⟩ := hP
      obtain ⟨rfl, hlt⟩ := rangeL_get hd
      obtain ⟨a', b', ps, B', P, hpa⟩ := part_ok B hL h1 ‹0 ≤ top› ht2
      have hps : ps.length ≤ 4 := Nat.le_trans P.few (by unfold cap; split <;> omega)
      have hap := appD_lst (x := smF (srtA ps)) (ds := t.map smF) (by simp; omega)
      have eap : t.map smF ++ [smF (srtA ps)] = (t ++ [srtA ps]).map smF := by simp
      rw [eap] at hap
      refine ⟨_, rfl, [.own false (.list [.int a', .int b']), .val (.int L), .val (sS x.s), .val (.int top), .own true (.list ((t ++ [srtA ps]).map smF)), .val (.int (0 + (k : Int))), .un], .inl ?_, a', b', t ++ [srtA ps], _, B', by simp [hk], fun u hu => ?_, rfl⟩
      · simp only [dnA, List.getElem?_cons_zero, List.getElem?_cons_succ, List.set_cons_zero, List.set_cons_succ, if_true, Bool.false_eq_true, if_false, ↓reduceIte, decide_true, decide_false, decide_eq_true_eq, Option.elim_some, Option.map_some, String.reduceBEq, Bool.or_false, Bool.false_or, Bool.or_true, Bool.true_or, Bool.not_true, Bool.not_false, ne_eq, not_true_eq_false, not_false_eq_true, List.cons_append, List.nil_append, List.replicate, append_ap, dcA, Option.bind_some, List.all_cons, List.all_nil, List.length_cons, List.length_nil, List.isEmpty_nil, List.isEmpty_cons, List.contains_cons, List.contains_nil, Nat.reduceBEq, Nat.reduceAdd, Nat.reduceLeDiff, Bool.and_true, Bool.true_and, hpa]
        rw [lcO_over ps tmD tmD (fun p => decide (p.2 ≠ 0))]
        rotate_left
        · intro p _
          have i4 : ixD (tmD p) (.int 1) = some (.int p.2) := rfl
          exact ⟨_, rfl, by simp only [dnA, List.getElem?_cons_zero, List.getElem?_cons_succ, List.set_cons_zero, List.set_cons_succ, if_true, Bool.false_eq_true, if_false, ↓reduceIte, decide_true, decide_false, decide_eq_true_eq, Option.elim_some, Option.map_some, String.reduceBEq, Bool.or_false, Bool.false_or, Bool.or_true, Bool.true_or, Bool.not_true, Bool.not_false, ne_eq, not_true_eq_false, not_false_eq_true, List.cons_append, List.nil_append, List.replicate, append_ap, i4], rfl, fun _ => by simp only [dnA, List.getElem?_cons_zero, List.getElem?_cons_succ, List.set_cons_zero, List.set_cons_succ, if_true, Bool.false_eq_true, if_false, ↓reduceIte, decide_true, decide_false, decide_eq_true_eq, Option.elim_some, Option.map_some, String.reduceBEq, Bool.or_false, Bool.false_or, Bool.or_true, Bool.true_or, Bool.not_true, Bool.not_false, ne_eq, not_true_eq_false, not_false_eq_true, List.cons_append, List.nil_append, List.replicate, append_ap]⟩
        · rfl
        · rfl
        · omega
        simp only [dnA, List.getElem?_cons_zero, List.getElem?_cons_succ, List.set_cons_zero, List.set_cons_succ, if_true, Bool.false_eq_true, if_false, ↓reduceIte, decide_true, decide_false, decide_eq_true_eq, Option.elim_some, Option.map_some, String.reduceBEq, Bool.or_false, Bool.false_or, Bool.or_true, Bool.true_or, Bool.not_true, Bool.not_false, ne_eq, not_true_eq_false, not_false_eq_true, List.cons_append, List.nil_append, List.replicate, append_ap, sortT_tm, tupF_l, show ∀ l : AL, fzD ((sortG lexT (l.filter fun p => decide (p.2 ≠ 0))).map tmD) = smF (srtA l) from fun _ => rfl, hap]
      · rcases List.mem_append.mp hu with h | h
        · exact ht u h
        · simp at h
          subst h
          exact part_pol P)
  rw [rangeL_len] at hk
  refine ⟨a1, b1, t, B1, ⟨?_, ht⟩, ?_⟩
  · rw [hk, ← hn2]; omega
  · rw [← htl]
    simp only [dnA, List.getElem?_cons_zero, List.getElem?_cons_succ, List.set_cons_zero, List.set_cons_succ, if_true, Bool.false_eq_true, if_false, ↓reduceIte, decide_true, decide_false, decide_eq_true_eq, Option.elim_some, Option.map_some, String.reduceBEq, Bool.or_false, Bool.false_or, Bool.or_true, Bool.true_or, Bool.not_true, Bool.not_false, ne_eq, not_true_eq_false, not_false_eq_true, List.cons_append, List.nil_append, List.replicate, append_ap]
    rfl
end Dn


/-! DtZ: comprehensions over an own list, reckoned; ties. -/
namespace Dn
open PySem
theorem lcB_over {α : Type} {ρ ρ0 ρ1 : Env} {i : Nat} {k : Bool} {t : Tg} {js : List Nat} {ts : M Bool} {el : M Opd} (xs : List α) (g f : α → D) (p : α → Bool) (hs : ρ[i]? = some (.own k (.list (xs.map g)))) (h1 : ρ.set i (.own false (.list (xs.map g))) = ρ1) (h0 : wipeD ρ1 js = ρ0)
    (hi : ρ0[i]? = some (.own false (.list (xs.map g))))
    (h : ∀ x ∈ xs, ∃ ρ2, tg t (g x) ρ0 = some ρ2 ∧ ts ρ2 = .ok (p x) ρ2 ∧ wipeD ρ2 js = ρ0 ∧ (p x = true → el ρ2 = .ok (.val (f x)) ρ2)) (hl : xs.length ≤ 100000) :
    lcB i t js ts el ρ = (backB i k (backD ρ1 ρ0 js)).elim .stuck (.ok (.val (.list ((xs.filter p).map f)))) := by
  have main : ∀ (N k : Nat) (acc : List D), k + N = xs.length → lcN (ofB i xs.length) (okB i xs.length) t js ts el N k acc ρ0 = .ok (acc ++ ((xs.drop k).filter p).map f) ρ0 := by
    intro N
    induction N with
    | zero =>
      intro k acc hN
      have e : xs.drop k = [] := List.drop_eq_nil_of_le (by omega)
      rw [e]
      show (if okB i xs.length ρ0 then R.ok acc ρ0 else .stuck) = _
      have : okB i xs.length ρ0 = true := by unfold okB; rw [hi]; simp
      rw [this]
      simp
    | succ N ih =>
      intro k acc hN
      have hk : k < xs.length := by omega
      have e : xs.drop k = xs[k] :: xs.drop (k + 1) := List.drop_eq_getElem_cons hk
      obtain ⟨ρ2, h1, h2, h3, h4⟩ := h xs[k] (List.getElem_mem hk)
      unfold lcN
      have e2 : ofB i xs.length k ρ0 = some (g xs[k]) := by
        unfold ofB
        rw [hi]
        simp [hk]
      simp only [e2, h1, h2, R.next]
      rw [e]
      cases hp : p xs[k] with
      | false =>
        simp only [Bool.false_eq_true, if_false, h3]
        rw [ih _ _ (by omega), List.filter_cons_of_neg (by rw [hp]; exact Bool.false_ne_true)]
      | true =>
        have h5 := h4 hp
        have e6 : bnd el stab ρ2 = .ok (f xs[k]) ρ2 := by unfold bnd; rw [h5]; rfl
        simp only [if_true, e6, R.next, h3]
        rw [ih _ _ (by omega), List.filter_cons_of_pos hp, List.map_cons, List.append_assoc, List.singleton_append]
  unfold lcB
  rw [hs]
  simp only
  rw [h1, List.length_map]
  unfold lcO
  rw [if_pos hl, h0, main xs.length 0 [] (by omega)]
  rfl
/-- the tie of another end -/
theorem tie_ok {L : Nat} {rs : List Rw} {ts : Nm} {k : Nat} {args : List Int} (z : ZL L) (hL : L ≤ 100) (F : TFit L rs ts) (hk : rs[k]? = some (.other, args)) (A : ArgsOk rs Wd.other.asks args) :
    ∃ o : AL, d_raws_tie [rowsD rs, thsD ts, .int k] = .ok (smF o) [] ∧ Pol L 600 22 1000 o ∧ ∀ xs : List Int, xs.length = L → ∃ q p : List Int, (nm ts args)[0]?.map (fun t => evT t xs) = some q ∧ (nm ts args)[1]?.map (fun t => evT t xs) = some p ∧ evL o xs = dotP (lp p) (timesP (lq q) (lp p)) := by
  obtain ⟨sl, sh⟩ := nm_shp F A
  have hat := nm_at F A
  have hkl : k < rs.length := (List.getElem?_eq_some_iff.mp hk).1
  have hrow : at_ (rs.map rowD) (k : Int) = some (rowD (.other, args)) := by
    rw [at_nat k (by simpa using hkl), List.getElem?_map, hk]
    rfl
  obtain ⟨t0, g0, s0⟩ := sh 0 .curve rfl
  obtain ⟨t1, g1, s1⟩ := sh 1 .spot rfl
  obtain ⟨u0, rfl, p0⟩ := shp6 s0
  obtain ⟨u1, rfl, p1⟩ := shp3 s1 (by decide)
  match args, A.1 with
  | [i0, i1, i2], _ =>
    have e0 : (ts[i0.toNat]?).getD [] = t6L u0 := by
      have : some ((ts[i0.toNat]?).getD []) = some (t6L u0) := g0
      exact Option.some.inj this
    have e1 : (ts[i1.toNat]?).getD [] = t3L u1 := by
      have : some ((ts[i1.toNat]?).getD []) = some (t3L u1) := g1
      exact Option.some.inj this
    have a0 := hat i0 (by simp)
    have a1 := hat i1 (by simp)
    rw [e0] at a0
    rw [e1] at a1
    obtain ⟨x0, q0, q1, q2⟩ := tabG z p0 (by decide)
    obtain ⟨x1, y1⟩ := ledG z hL q0 q1 q2 p1 (by decide) (by decide) (by decide)
    have x1 : d_raws_led_by [.list [th3 (tab0 u0), th3 (tab1 u0), th3 (tab2 u0)], thL (t3L u1)] = .ok (thL (t3L (ledA (tab0 u0) (tab1 u0) (tab2 u0) u1))) [] := x1
    have y1 : P3P L 3 2 83 (ledA (tab0 u0) (tab1 u0) (tab2 u0) u1) := y1
    obtain ⟨x2, y2⟩ := dotG z hL p1 y1 (by decide) (by decide) (by decide)
    have x2 : d_raws_dotted [thL (t3L u1), thL (t3L (ledA (tab0 u0) (tab1 u0) (tab2 u0) u1))] = .ok (smF (dotA u1 (ledA (tab0 u0) (tab1 u0) (tab2 u0) u1))) [] := x2
    refine ⟨dotA u1 (ledA (tab0 u0) (tab1 u0) (tab2 u0) u1), ?_, Pol.mono (n := 9) (d := 3) (e := 125) y2 (by decide) (by decide) (by decide), fun xs hx => ⟨evT (t6L u0) xs, evT (t3L u1) xs, by rw [g0]; rfl, by rw [g1]; rfl, ?_⟩⟩
    · unfold d_raws_tie b_raws_tie
      rw [runD_ap rfl]
      have at1 : at_ [PyData.str (PySem.Str.ofString Wd.other.s), .int i0, .int i1, .int i2] 1 = some (.int i0) := rfl
      have at2 : at_ [PyData.str (PySem.Str.ofString Wd.other.s), .int i0, .int i1, .int i2] 2 = some (.int i1) := rfl
      simp only [dnA, List.getElem?_cons_zero, List.getElem?_cons_succ, List.set_cons_zero, List.set_cons_succ, if_true, Bool.false_eq_true, if_false, ↓reduceIte, decide_true, decide_false, decide_eq_true_eq, Option.elim_some, Option.map_some, String.reduceBEq, Bool.or_false, Bool.false_or, Bool.or_true, Bool.true_or, Bool.not_true, Bool.not_false, ne_eq, not_true_eq_false, not_false_eq_true, List.cons_append, List.nil_append, List.replicate, append_ap, rowsD, thsD, hrow, rowD, List.map_cons, List.map_nil, a0, a1, call_v1 x0, call_v2 x1, call_v2 x2]
    · obtain ⟨h0, h1, h2⟩ := tab_ev p0 xs
      rw [dotA_ev p1 y1 hx, led_ev q0 q1 q2 p1 hx, h0, h1, h2]
      rfl
end Dn


/-! DtC: a claim that a law draws. -/
namespace Dn
open PySem
/-- the words of claims, each with the sorts that it asks -/
inductive Cw where
  | same (x : Sr) | on (x : Sr) | row | bunch | touch | parted
def Cw.s : Cw → String
  | .same _ => "same" | .on _ => "on" | .row => "row" | .bunch => "bunch" | .touch => "touch" | .parted => "parted"
def Cw.asks : Cw → List Sr
  | .same x => [x, x] | .on x => [.spot, x] | .row => [.spot, .spot, .spot] | .bunch => [.line, .line, .line] | .touch => [.line, .curve] | .parted => [.curve]
/-- on is asked of a line or a curve -/
def Cw.ok : Cw → Prop
  | .on x => x ≠ .spot
  | _ => True
def clD (w : Cw) (args : List Int) : D := .tuple (sS w.s :: args.map PyData.int)
abbrev sL (xs : List Sr) : D := .list (xs.map fun x => sS x.s)
/-- the dict of what each word asks -/
def clDict (x y : Sr) : D := .dict [(sS "same", sL [x, x]), (sS "row", sL [.spot, .spot, .spot]), (sS "bunch", sL [.line, .line, .line]), (sS "on", sL [.spot, y]), (sS "touch", sL [.line, .curve]), (sS "parted", sL [.curve])]
theorem clDict_eq (x y : Sr) : (PyData.dict [(.str (PySem.Str.ofString "same"), .list [sS x.s, sS x.s]), (.str (PySem.Str.ofString "row"), .list [.str (PySem.Str.ofString "spot"), .str (PySem.Str.ofString "spot"), .str (PySem.Str.ofString "spot")]), (.str (PySem.Str.ofString "bunch"), .list [.str (PySem.Str.ofString "line"), .str (PySem.Str.ofString "line"), .str (PySem.Str.ofString "line")]), (.str (PySem.Str.ofString "on"), .list [.str (PySem.Str.ofString "spot"), sS y.s]), (.str (PySem.Str.ofString "touch"), .list [.str (PySem.Str.ofString "line"), .str (PySem.Str.ofString "curve")]), (.str (PySem.Str.ofString "parted"), .list [.str (PySem.Str.ofString "curve")])]) = clDict x y := rfl
theorem clDict_obj (x y : Sr) : objD (clDict x y) = true := rfl
def eightW (x y : Sr) : List Cw := [.same x, .on y, .row, .bunch, .touch, .parted, .row, .on y]
theorem clDict_at (x y : Sr) : ∀ w ∈ eightW x y, dixD (clDict x y) (sS w.s) = some (sL w.asks) := by
  intro w hw
  simp only [eightW, List.mem_cons, List.mem_nil_iff, or_false] at hw
  rcases hw with rfl | rfl | rfl | rfl | rfl | rfl | rfl | rfl <;> (unfold clDict; simp only [Cw.s, Cw.asks]; simp only [dnA, List.getElem?_cons_zero, List.getElem?_cons_succ, List.set_cons_zero, List.set_cons_succ, if_true, Bool.false_eq_true, if_false, ↓reduceIte, decide_true, decide_false, decide_eq_true_eq, Option.elim_some, Option.map_some, String.reduceBEq, Bool.or_false, Bool.false_or, Bool.or_true, Bool.true_or, Bool.not_true, Bool.not_false, ne_eq, not_true_eq_false, not_false_eq_true, List.cons_append, List.nil_append, List.replicate, append_ap, dputD, isKey, noMark, List.map_cons, List.map_nil, List.zip_cons_cons, List.zip_nil_left, List.length_cons, List.length_nil, putL, List.any_cons, List.any_nil, PyData.eqv, dixD, lookD, lookS, List.find?_cons, List.find?_nil, Bool.and_true, Nat.reduceAdd, Nat.reduceLT])
theorem claim_ok {rs : List Rw} {a b : Int} (h1 : 1 ≤ rs.length) (hl : rs.length ≤ 1000) (B : BagOk a b) :
    ∃ (a' b' : Int) (w : Cw) (args : List Int), BagOk a' b' ∧ w.ok ∧ ArgsOk rs w.asks args ∧ d_law_law_claim [.list [.int a, .int b], rowsD rs] = .ok (clD w args) [.list [.int a', .int b']] := by
  let ss : List Sr := rs.map fun r => r.1.sr
  have hmem : ∀ x, x ∈ ss → hasS rs x := fun x hx => by
    obtain ⟨r, hr, e⟩ := List.mem_map.mp hx
    exact ⟨r, hr, e⟩
  have hsl : ss.length = rs.length := by simp [ss]
  -- what is drawn
  have d1 := draw_ok B (m := 8) (by decide) (by decide)
  have B1 := drawOk B (m := 8) (by decide)
  obtain ⟨r1, r1'⟩ := drawR_lt (a := a) (b := b) (m := 8) (by decide)
  generalize drawR a b 8 = i1 at d1 r1 r1'
  generalize drawA a 8 = a1 at d1 B1
  generalize drawB a b = b1 at d1 B1
  have m2 : (0 : Int) < (ss.length : Nat) := by omega
  have d2 := draw_ok B1 (m := (ss.length : Nat)) m2 (by omega)
  have B2 := drawOk B1 m2
  obtain ⟨r2, r2'⟩ := drawR_lt (a := a1) (b := b1) m2
  generalize drawR a1 b1 (ss.length : Nat) = i2 at d2 r2 r2'
  generalize drawA a1 (ss.length : Nat) = a2 at d2 B2
  generalize drawB a1 b1 = b2 at d2 B2
  have d3 := draw_ok B2 (m := 2) (by decide) (by decide)
  have B3 := drawOk B2 (m := 2) (by decide)
  obtain ⟨r3, r3'⟩ := drawR_lt (a := a2) (b := b2) (m := 2) (by decide)
  generalize drawR a2 b2 2 = i3 at d3 r3 r3'
  generalize drawA a2 2 = a3 at d3 B3
  generalize drawB a2 b2 = b3 at d3 B3
  obtain ⟨k2, hk2, k2l⟩ : ∃ k : Nat, i2 = (k : Int) ∧ k < ss.length := ⟨i2.toNat, by omega, by omega⟩
  obtain ⟨x, hx⟩ : ∃ x, ss[k2]? = some x := ⟨_, List.getElem?_eq_getElem k2l⟩
  have hxs : x ∈ ss := List.mem_of_getElem? hx
  have at2 : at_ (ss.map fun x => sS x.s) i2 = some (sS x.s) := by
    rw [hk2, at_nat k2 (by simpa using k2l), List.getElem?_map, hx]
    rfl
  obtain ⟨y, hy, at3⟩ : ∃ y : Sr, y ≠ .spot ∧ at_ [sS "line", sS "curve"] i3 = some (sS y.s) := by
    have : i3 = 0 ∨ i3 = 1 := by omega
    rcases this with rfl | rfl
    · exact ⟨.line, by decide, at_0⟩
    · exact ⟨.curve, by decide, at_1⟩
  obtain ⟨k1, hk1, k1l⟩ : ∃ k : Nat, i1 = (k : Int) ∧ k < 8 := ⟨i1.toNat, by omega, by omega⟩
  obtain ⟨w, hw⟩ : ∃ w, (eightW x y)[k1]? = some w := ⟨_, List.getElem?_eq_getElem (by show k1 < 8; exact k1l)⟩
  have hwm := List.mem_of_getElem? hw
  have at1 : at_ [sS "same", sS "on", sS "row", sS "bunch", sS "touch", sS "parted", sS "row", sS "on"] i1 = some (sS w.s) := by
    rw [hk1, at_nat k1 (by simpa using k1l)]
    show ((eightW x y).map fun w => sS w.s)[k1]? = _
    rw [List.getElem?_map, hw]
    rfl
  have hwok : w.ok := by
    simp only [eightW, List.mem_cons, List.mem_nil_iff, or_false] at hwm
    rcases hwm with rfl | rfl | rfl | rfl | rfl | rfl | rfl | rfl <;> first | trivial | exact hy
  have hwl : w.asks.length ≤ 3 := by cases w <;> exact Nat.le_of_ble_eq_true rfl
  have hdw := clDict_at x y w hwm
  have hds := clDict_at x y (.same x) (by simp [eightW])
  unfold d_law_law_claim b_law_law_claim rowsD
  rw [runD_ap rfl]
  generalize ht : retS _ = tl
  simp only [dnA, List.getElem?_cons_zero, List.getElem?_cons_succ, List.set_cons_zero, List.set_cons_succ, if_true, Bool.false_eq_true, if_false, ↓reduceIte, decide_true, decide_false, decide_eq_true_eq, Option.elim_some, Option.map_some, String.reduceBEq, Bool.or_false, Bool.false_or, Bool.or_true, Bool.true_or, Bool.not_true, Bool.not_false, ne_eq, not_true_eq_false, not_false_eq_true, List.cons_append, List.nil_append, List.replicate, append_ap]
  rw [lcO_over rs rowD (fun r => sS r.1.sr.s) (fun _ => true), filter_all]
  rotate_left
  · exact fun r _ => ⟨_, rfl, rfl, rfl, fun _ => by simp only [dnA, List.getElem?_cons_zero, List.getElem?_cons_succ, List.set_cons_zero, List.set_cons_succ, if_true, Bool.false_eq_true, if_false, ↓reduceIte, decide_true, decide_false, decide_eq_true_eq, Option.elim_some, Option.map_some, String.reduceBEq, Bool.or_false, Bool.false_or, Bool.or_true, Bool.true_or, Bool.not_true, Bool.not_false, ne_eq, not_true_eq_false, not_false_eq_true, List.cons_append, List.nil_append, List.replicate, append_ap, rowD, call_v1 (sort_ok _ _)]⟩
  · rfl
  · rfl
  · omega
  have ess : (rs.map fun r => sS r.1.sr.s) = ss.map fun y => sS y.s := by simp [ss]
  rw [ess]
  have elen : ((ss.map fun y => sS y.s).length : Int) = (ss.length : Nat) := by rw [List.length_map]
  simp only [dnA, List.getElem?_cons_zero, List.getElem?_cons_succ, List.set_cons_zero, List.set_cons_succ, if_true, Bool.false_eq_true, if_false, ↓reduceIte, decide_true, decide_false, decide_eq_true_eq, Option.elim_some, Option.map_some, String.reduceBEq, Bool.or_false, Bool.false_or, Bool.or_true, Bool.true_or, Bool.not_true, Bool.not_false, ne_eq, not_true_eq_false, not_false_eq_true, List.cons_append, List.nil_append, List.replicate, append_ap, dputD, isKey, noMark, List.map_cons, List.map_nil, List.zip_cons_cons, List.zip_nil_left, List.length_cons, List.length_nil, putL, List.any_cons, List.any_nil, PyData.eqv, Bool.and_true, Nat.reduceAdd, Nat.reduceLT, elen, call_m10 d1, call_m10 d2, call_m10 d3, at1, at2, at3, clDict_eq, clDict_obj, hdw]
  rw [lcO_over w.asks (fun x => sS x.s) (fun x => sS x.s) (fun x => !decide (x ∈ ss))]
  rotate_left
  · exact fun x _ => ⟨_, rfl, by simp only [dnA, List.getElem?_cons_zero, List.getElem?_cons_succ, List.set_cons_zero, List.set_cons_succ, if_true, Bool.false_eq_true, if_false, ↓reduceIte, decide_true, decide_false, decide_eq_true_eq, Option.elim_some, Option.map_some, String.reduceBEq, Bool.or_false, Bool.false_or, Bool.or_true, Bool.true_or, Bool.not_true, Bool.not_false, ne_eq, not_true_eq_false, not_false_eq_true, List.cons_append, List.nil_append, List.replicate, append_ap, inS], rfl, fun _ => by simp only [dnA, List.getElem?_cons_zero, List.getElem?_cons_succ, List.set_cons_zero, List.set_cons_succ, if_true, Bool.false_eq_true, if_false, ↓reduceIte, decide_true, decide_false, decide_eq_true_eq, Option.elim_some, Option.map_some, String.reduceBEq, Bool.or_false, Bool.false_or, Bool.or_true, Bool.true_or, Bool.not_true, Bool.not_false, ne_eq, not_true_eq_false, not_false_eq_true, List.cons_append, List.nil_append, List.replicate, append_ap]⟩
  · rfl
  · rfl
  · omega
  -- the word and its sorts
  have key : ∀ (w' : Cw), w'.ok → dixD (clDict x y) (sS w'.s) = some (sL w'.asks) → w'.asks.length ≤ 3 → (∀ z ∈ w'.asks, z ∈ ss) →
      ∃ (a' b' : Int) (w : Cw) (args : List Int), BagOk a' b' ∧ w.ok ∧ ArgsOk rs w.asks args ∧
        finD [true, false] false (tl
          [.own false (.list [.int a3, .int b3]), .val (.list (rs.map rowD)), .val (.list (ss.map fun y => sS y.s)), .val (sS w'.s), .val (sS x.s), .own true (clDict x y), .un, .un]) = .ok (clD w args) [.list [.int a', .int b']] := by
    intro w' ok' hd' hl' hall
    rw [← ht]
    obtain ⟨a', b', args, B', ha, e⟩ := picks_ok (rs := rs) (xs := w'.asks) (j := 6) (ρ := [.val (.list (rs.map rowD)), .val (.list (ss.map fun y => sS y.s)), .val (sS w'.s), .val (sS x.s), .own true (clDict x y), .un, .un])
      (el := callM d_law_law_pick [true, false, false] false [Dn.b 0, v 1, v 7]) (fun z hz => hmem z (hall z hz)) hl (by omega) B3 rfl (fun a b x => by simp only [dnA, List.getElem?_cons_zero, List.getElem?_cons_succ, List.set_cons_zero, List.set_cons_succ, if_true, Bool.false_eq_true, if_false, ↓reduceIte, decide_true, decide_false, decide_eq_true_eq, Option.elim_some, Option.map_some, String.reduceBEq, Bool.or_false, Bool.false_or, Bool.or_true, Bool.true_or, Bool.not_true, Bool.not_false, ne_eq, not_true_eq_false, not_false_eq_true, List.cons_append, List.nil_append, List.replicate, append_ap, rowsD])
    refine ⟨a', b', w', args, B', ok', ha, ?_⟩
    have hal : args.length = w'.asks.length := ha.1
    simp only [dnA, List.getElem?_cons_zero, List.getElem?_cons_succ, List.set_cons_zero, List.set_cons_succ, if_true, Bool.false_eq_true, if_false, ↓reduceIte, decide_true, decide_false, decide_eq_true_eq, Option.elim_some, Option.map_some, String.reduceBEq, Bool.or_false, Bool.false_or, Bool.or_true, Bool.true_or, Bool.not_true, Bool.not_false, ne_eq, not_true_eq_false, not_false_eq_true, List.cons_append, List.nil_append, List.replicate, append_ap, clDict_obj, hd', e, addD_lst (xs := [sS w'.s]) (ys := args.map PyData.int) (by simp; omega)]
    rfl
  by_cases hk : (w.asks.filter fun x => !decide (x ∈ ss)) = []
  · simp only [dnA, List.getElem?_cons_zero, List.getElem?_cons_succ, List.set_cons_zero, List.set_cons_succ, if_true, Bool.false_eq_true, if_false, ↓reduceIte, decide_true, decide_false, decide_eq_true_eq, Option.elim_some, Option.map_some, String.reduceBEq, Bool.or_false, Bool.false_or, Bool.or_true, Bool.true_or, Bool.not_true, Bool.not_false, ne_eq, not_true_eq_false, not_false_eq_true, List.cons_append, List.nil_append, List.replicate, append_ap, hk, List.map_nil, List.length_nil, show ¬ ((0 : Int) < ((0 : Nat) : Int)) by decide]
    refine key w hwok hdw hwl fun z hz => ?_
    have := List.filter_eq_nil_iff.mp hk z hz
    simpa using this
  · have hk1 : (0 : Int) < (((w.asks.filter fun x => !decide (x ∈ ss)).map fun x => sS x.s).length : Nat) := by
      have := List.length_pos_iff.mpr hk
      rw [List.length_map]
      omega
    simp only [dnA, List.getElem?_cons_zero, List.getElem?_cons_succ, List.set_cons_zero, List.set_cons_succ, if_true, Bool.false_eq_true, if_false, ↓reduceIte, decide_true, decide_false, decide_eq_true_eq, Option.elim_some, Option.map_some, String.reduceBEq, Bool.or_false, Bool.false_or, Bool.or_true, Bool.true_or, Bool.not_true, Bool.not_false, ne_eq, not_true_eq_false, not_false_eq_true, List.cons_append, List.nil_append, List.replicate, append_ap, hk1]
    have hkey := key (.same x) trivial hds (Nat.le_of_ble_eq_true rfl) fun z hz => by
      rcases List.mem_cons.mp (show z ∈ [x, x] from hz) with e | e
      · rw [e]; exact hxs
      · rw [List.mem_singleton.mp e]; exact hxs
    exact hkey
end Dn


/-! DtJ: the sums of a claim. -/
namespace Dn
open PySem
/-- what a claim's sums come to, of numbers -/
def two15 : List (Nat × Nat) := [(0, 1), (0, 2), (0, 3), (0, 4), (0, 5), (1, 2), (1, 3), (1, 4), (1, 5), (2, 3), (2, 4), (2, 5), (3, 4), (3, 5), (4, 5)]
def sumsP : Cw → List (List Int) → List Int
  | .same x, [u, v] => if x = .curve then two15.map fun q => u.getD q.1 0 * v.getD q.2 0 - u.getD q.2 0 * v.getD q.1 0 else lstP (crossP (lp u) (lp v))
  | .on x, [p, l] => if x = .curve then [dotP (lp p) (timesP (lq l) (lp p))] else [dotP (lp p) (lp l)]
  | .row, [u, v, w] => [dotP (crossP (lp u) (lp v)) (lp w)]
  | .bunch, [u, v, w] => [dotP (crossP (lp u) (lp v)) (lp w)]
  | .touch, [l, c] => [dotP (lp l) (dotP (crossP (row1 (lq c)) (row2 (lq c))) (lp l), dotP (crossP (row2 (lq c)) (row0 (lq c))) (lp l), dotP (crossP (row0 (lq c)) (row1 (lq c))) (lp l))]
  | .parted, [c] => [dotP (row0 (lq c)) (crossP (row1 (lq c)) (row2 (lq c)))]
  | _, _ => []
/-- some things as asked -/
theorem nm_two {L : Nat} {N : Nm} {x y : Sr} (sl : N.length = 2) (sh : ∀ (i : Nat) (z : Sr), [x, y][i]? = some z → ∃ t, N[i]? = some t ∧ shp L z t) : ∃ t0 t1, N = [t0, t1] ∧ shp L x t0 ∧ shp L y t1 := by
  obtain ⟨t0, h0, s0⟩ := sh 0 x rfl
  obtain ⟨t1, h1, s1⟩ := sh 1 y rfl
  match N, sl, h0, h1 with
  | [a, b], _, h0, h1 =>
    have : a = t0 := by simpa using h0
    subst this
    have : b = t1 := by simpa using h1
    subst this
    exact ⟨_, _, rfl, s0, s1⟩
theorem nm_three {L : Nat} {N : Nm} {x y w : Sr} (sl : N.length = 3) (sh : ∀ (i : Nat) (z : Sr), [x, y, w][i]? = some z → ∃ t, N[i]? = some t ∧ shp L z t) : ∃ t0 t1 t2, N = [t0, t1, t2] ∧ shp L x t0 ∧ shp L y t1 ∧ shp L w t2 := by
  obtain ⟨t0, h0, s0⟩ := sh 0 x rfl
  obtain ⟨t1, h1, s1⟩ := sh 1 y rfl
  obtain ⟨t2, h2, s2⟩ := sh 2 w rfl
  match N, sl, h0, h1, h2 with
  | [a, b, c], _, h0, h1, h2 =>
    simp at h0 h1 h2
    subst h0 h1 h2
    exact ⟨_, _, _, rfl, s0, s1, s2⟩
theorem sortOf_ok {rs : List Rw} {k : Nat} {r : Rw} (h : rs[k]? = some r) : d_drawings_sort_of [rowsD rs, .int k] = .ok (sS r.1.sr.s) [] := by
  have hk : k < rs.length := (List.getElem?_eq_some_iff.mp h).1
  unfold d_drawings_sort_of b_drawings_sort_of rowsD
  rw [runD_ap rfl]
  simp only [dnA, List.getElem?_cons_zero, List.getElem?_cons_succ, List.set_cons_zero, List.set_cons_succ, if_true, Bool.false_eq_true, if_false, ↓reduceIte, decide_true, decide_false, decide_eq_true_eq, Option.elim_some, Option.map_some, String.reduceBEq, Bool.or_false, Bool.false_or, Bool.or_true, Bool.true_or, Bool.not_true, Bool.not_false, ne_eq, not_true_eq_false, not_false_eq_true, List.cons_append, List.nil_append, List.replicate, append_ap, at_nat (xs := rs.map rowD) k (by simpa using hk), List.getElem?_map, h, rowD]
  obtain ⟨w, args⟩ := r
  cases w <;> (simp only [Wd.s, Wd.sr, Sr.s]; simp only [dnA, List.getElem?_cons_zero, List.getElem?_cons_succ, List.set_cons_zero, List.set_cons_succ, if_true, Bool.false_eq_true, if_false, ↓reduceIte, decide_true, decide_false, decide_eq_true_eq, Option.elim_some, Option.map_some, String.reduceBEq, Bool.or_false, Bool.false_or, Bool.or_true, Bool.true_or, Bool.not_true, Bool.not_false, ne_eq, not_true_eq_false, not_false_eq_true, List.cons_append, List.nil_append, List.replicate, append_ap, dputD, isKey, noMark, List.map_cons, List.map_nil, List.zip_cons_cons, List.zip_nil_left, List.length_cons, List.length_nil, putL, List.any_cons, List.any_nil, PyData.eqv, dixD, lookD, lookS, List.find?_cons, List.find?_nil, Bool.and_true, Nat.reduceAdd, Nat.reduceLT, e1_ap, k_SORTS])
theorem evT_one (o : AL) (xs : List Int) : evT [o] xs = [evL o xs] := rfl
/-- behind the first row of claim_sums -/
noncomputable def csB : S := seq (ifS (andT (tst (e2 eqD (e2 ixD (v 2) (c (.int 0))) (c (.str (PySem.Str.ofString "same"))))) (tst (e2 eqD (eN lenD [e2 ixD (v 3) (c (.int 0))]) (c (.int 3))))) (retS (eN listD [callM d_raws_crossed [false, false] false [e2 ixD (v 3) (c (.int 0)), e2 ixD (v 3) (c (.int 1))]])) (skip)) (seq (ifS (tst (e2 eqD (e2 ixD (v 2) (c (.int 0))) (c (.str (PySem.Str.ofString "same"))))) (seq (setT (.tp [7, 8]) (v 3)) (seq (setV 5 (lcI (zipM (c k_FIRST_OF_TWO) (c k_SECOND_OF_TWO)) (.tp [9, 10]) [9, 10] (yes) (tup [v 9, v 10]))) (retS (lcI (itemsM (v 5)) (.tp [9, 10]) [9, 10] (yes) (callM d_letters_minus [false, false] false [callM d_letters_times [false, false] false [e2 ixD (v 7) (v 9), e2 ixD (v 8) (v 10)], callM d_letters_times [false, false] false [e2 ixD (v 7) (v 10), e2 ixD (v 8) (v 9)]]))))) (skip)) (seq (ifS (andT (tst (e2 eqD (e2 ixD (v 2) (c (.int 0))) (c (.str (PySem.Str.ofString "on"))))) (tst (e2 eqD (callM d_drawings_sort_of [false, false] false [v 0, e2 ixD (v 2) (c (.int 2))]) (c (.str (PySem.Str.ofString "line")))))) (retS (lst [callM d_raws_dotted [false, false] false [e2 ixD (v 3) (c (.int 0)), e2 ixD (v 3) (c (.int 1))]])) (skip)) (seq (ifS (tst (e2 eqD (e2 ixD (v 2) (c (.int 0))) (c (.str (PySem.Str.ofString "on"))))) (retS (lst [callM d_raws_dotted [false, false] false [e2 ixD (v 3) (c (.int 0)), callM d_raws_led_by [false, false] false [nl (callM d_raws_table_rows [false] true [e2 ixD (v 3) (c (.int 1))]), e2 ixD (v 3) (c (.int 0))]]])) (skip)) (seq (ifS (orT (tst (e2 eqD (e2 ixD (v 2) (c (.int 0))) (c (.str (PySem.Str.ofString "row"))))) (tst (e2 eqD (e2 ixD (v 2) (c (.int 0))) (c (.str (PySem.Str.ofString "bunch")))))) (retS (lst [callM d_raws_dotted [false, false] false [callM d_raws_crossed [false, false] false [e2 ixD (v 3) (c (.int 0)), e2 ixD (v 3) (c (.int 1))], e2 ixD (v 3) (c (.int 2))]])) (skip)) (seq (ifS (tst (e2 eqD (e2 ixD (v 2) (c (.int 0))) (c (.str (PySem.Str.ofString "touch"))))) (retS (lst [callM d_raws_dotted [false, false] false [e2 ixD (v 3) (c (.int 0)), callM d_raws_led_by [false, false] false [nl (callM d_raws_turned_rows [false] true [nl (callM d_raws_table_rows [false] true [e2 ixD (v 3) (c (.int 1))])]), e2 ixD (v 3) (c (.int 0))]]])) (skip)) (seq (setV 4 (nl (callM d_raws_table_rows [false] true [e2 ixD (v 3) (c (.int 0))]))) (retS (lst [callM d_raws_dotted [false, false] false [e2 ixD (v 4) (c (.int 0)), callM d_raws_crossed [false, false] false [e2 ixD (v 4) (c (.int 1)), e2 ixD (v 4) (c (.int 2))]]]))))))))
theorem cs_pre {L : Nat} {rs : List Rw} {ts N : Nm} {w : Cw} {args : List Int} (F : TFit L rs ts) (A : ArgsOk rs w.asks args) (hN : nm ts args = N) :
    d_raws_claim_sums [rowsD rs, thsD ts, clD w args] = finD [false, false, false] true (csB [.val (rowsD rs), .val (thsD ts), .val (clD w args), .val (.list (N.map thL)), .un, .un, .un, .un, .un, .un, .un]) := by
  have hat := nm_at F A
  have hal : args.length ≤ 3 := by rw [A.1]; cases w <;> exact Nat.le_of_ble_eq_true rfl
  have hsl : sliceD (some 1) none (clD w args) = some (.tuple (args.map PyData.int)) := from1_tup
  have en : (args.map fun i => thL ((ts[i.toNat]?).getD [])) = N.map thL := by rw [← hN]; unfold nm; rw [List.map_map]; rfl
  have eb : b_raws_claim_sums = seq (setV 3 (lcI (itemsM (slc (some (c (.int 1))) none (v 2))) (.nm 6) [6] (yes) (e2 ixD (v 1) (v 6)))) csB := rfl
  unfold d_raws_claim_sums
  rw [runD_ap rfl, eb]
  generalize csB = tl
  simp only [dnA, List.getElem?_cons_zero, List.getElem?_cons_succ, List.set_cons_zero, List.set_cons_succ, if_true, Bool.false_eq_true, if_false, ↓reduceIte, decide_true, decide_false, decide_eq_true_eq, Option.elim_some, Option.map_some, String.reduceBEq, Bool.or_false, Bool.false_or, Bool.or_true, Bool.true_or, Bool.not_true, Bool.not_false, ne_eq, not_true_eq_false, not_false_eq_true, List.cons_append, List.nil_append, List.replicate, append_ap, hsl]
  rw [lcO_over args PyData.int (fun i => thL ((ts[i.toNat]?).getD [])) (fun _ => true), filter_all]
  rotate_left
  · exact fun i hi => ⟨_, rfl, rfl, rfl, fun _ => by simp only [dnA, List.getElem?_cons_zero, List.getElem?_cons_succ, List.set_cons_zero, List.set_cons_succ, if_true, Bool.false_eq_true, if_false, ↓reduceIte, decide_true, decide_false, decide_eq_true_eq, Option.elim_some, Option.map_some, String.reduceBEq, Bool.or_false, Bool.false_or, Bool.or_true, Bool.true_or, Bool.not_true, Bool.not_false, ne_eq, not_true_eq_false, not_false_eq_true, List.cons_append, List.nil_append, List.replicate, append_ap, thsD, hat i hi]⟩
  · rfl
  · rfl
  · omega
  rw [en]
  simp only [dnA, List.getElem?_cons_zero, List.getElem?_cons_succ, List.set_cons_zero, List.set_cons_succ, if_true, Bool.false_eq_true, if_false, ↓reduceIte, decide_true, decide_false, decide_eq_true_eq, Option.elim_some, Option.map_some, String.reduceBEq, Bool.or_false, Bool.false_or, Bool.or_true, Bool.true_or, Bool.not_true, Bool.not_false, ne_eq, not_true_eq_false, not_false_eq_true, List.cons_append, List.nil_append, List.replicate, append_ap]
theorem cl0 (w : Cw) (args : List Int) : ixD (clD w args) (.int 0) = some (sS w.s) := by unfold clD; rw [ixD_tup, at_0]
theorem len3T (u : T3) : lenD [thL (t3L u)] = some (.int 3) := rfl
theorem len6T (u : T6) : lenD [thL (t6L u)] = some (.int 6) := rfl
/-- what is due of claim_sums -/
def CsOk (L : Nat) (rs : List Rw) (ts : Nm) (w : Cw) (args : List Int) : Prop :=
  ∃ fs : List AL, d_raws_claim_sums [rowsD rs, thsD ts, clD w args] = .ok (.list (fs.map smF)) [] ∧ PL L 600 22 1000 fs ∧ fs.length ≤ 15 ∧ ∀ xs : List Int, xs.length = L → evT fs xs = sumsP w ((nm ts args).map fun t => evT t xs)
theorem pl_one {L n d e : Nat} {o : AL} (h : Pol L n d e o) (h1 : n ≤ 600) (h2 : d ≤ 22) (h3 : e ≤ 1000) : PL L 600 22 1000 [o] := fun t ht => by
  simp at ht
  subst ht
  exact h.mono h1 h2 h3
section
variable {L : Nat} {rs : List Rw} {ts : Nm} {args : List Int}
theorem cs_same3 (x : Sr) (hx : x ≠ .curve) (z : ZL L) (hL : L ≤ 100) (F : TFit L rs ts) (A : ArgsOk rs (Cw.same x).asks args) : CsOk L rs ts (.same x) args := by
  obtain ⟨sl, sh⟩ := nm_shp F A
  obtain ⟨t0, t1, hN, s0, s1⟩ := nm_two (x := x) (y := x) sl sh
  obtain ⟨u0, rfl, p0⟩ := shp3 s0 hx
  obtain ⟨u1, rfl, p1⟩ := shp3 s1 hx
  obtain ⟨x1, y1⟩ := crossG z hL p0 p1 (by decide) (by decide) (by decide)
  have x1 : d_raws_crossed [thL (t3L u0), thL (t3L u1)] = .ok (thL (t3L (crossA u0 u1))) [] := x1
  have lt : listD [thL (t3L (crossA u0 u1))] = some (.list ((t3L (crossA u0 u1)).map smF)) := rfl
  refine ⟨t3L (crossA u0 u1), ?_, (p3_L y1).mono (by decide) (by decide) (by decide), by simp [t3L], fun xs hxs => ?_⟩
  · rw [cs_pre F A hN]
    unfold csB
    simp only [dnA, List.getElem?_cons_zero, List.getElem?_cons_succ, List.set_cons_zero, List.set_cons_succ, if_true, Bool.false_eq_true, if_false, ↓reduceIte, decide_true, decide_false, decide_eq_true_eq, Option.elim_some, Option.map_some, String.reduceBEq, Bool.or_false, Bool.false_or, Bool.or_true, Bool.true_or, Bool.not_true, Bool.not_false, ne_eq, not_true_eq_false, not_false_eq_true, List.cons_append, List.nil_append, List.replicate, append_ap, cl0, Cw.s, List.map_cons, List.map_nil, len3T, call_v2 x1, lt]
  · rw [hN, evT_t3, crossA_ev p0 p1 hxs]
    simp only [sumsP, List.map_cons, List.map_nil]
    rw [if_neg hx]
    rfl
theorem cs_turn (x : Sr) (hx : x ≠ .curve) (w : Cw) (hw : (w = .row ∧ x = .spot) ∨ (w = .bunch ∧ x = .line)) (z : ZL L) (hL : L ≤ 100) (F : TFit L rs ts) (A : ArgsOk rs w.asks args) : CsOk L rs ts w args := by
  obtain ⟨sl, sh⟩ := nm_shp F A
  have ha : w.asks = [x, x, x] := by rcases hw with ⟨rfl, rfl⟩ | ⟨rfl, rfl⟩ <;> rfl
  rw [ha] at sl sh
  obtain ⟨t0, t1, t2, hN, s0, s1, s2⟩ := nm_three (x := x) (y := x) (w := x) sl sh
  obtain ⟨u0, rfl, p0⟩ := shp3 s0 hx
  obtain ⟨u1, rfl, p1⟩ := shp3 s1 hx
  obtain ⟨u2, rfl, p2⟩ := shp3 s2 hx
  obtain ⟨x1, y1⟩ := crossG z hL p0 p1 (by decide) (by decide) (by decide)
  have x1 : d_raws_crossed [thL (t3L u0), thL (t3L u1)] = .ok (thL (t3L (crossA u0 u1))) [] := x1
  have y1 : P3P L 2 2 81 (crossA u0 u1) := y1
  obtain ⟨x2, y2⟩ := dotG z hL y1 p2 (by decide) (by decide) (by decide)
  have x2 : d_raws_dotted [thL (t3L (crossA u0 u1)), thL (t3L u2)] = .ok (smF (dotA (crossA u0 u1) u2)) [] := x2
  refine ⟨[dotA (crossA u0 u1) u2], ?_, pl_one (n := 6) (d := 3) (e := 123) y2 (by decide) (by decide) (by decide), by simp, fun xs hxs => ?_⟩
  · rw [cs_pre F A hN]
    unfold csB
    rcases hw with ⟨rfl, rfl⟩ | ⟨rfl, rfl⟩ <;> simp only [dnA, List.getElem?_cons_zero, List.getElem?_cons_succ, List.set_cons_zero, List.set_cons_succ, if_true, Bool.false_eq_true, if_false, ↓reduceIte, decide_true, decide_false, decide_eq_true_eq, Option.elim_some, Option.map_some, String.reduceBEq, Bool.or_false, Bool.false_or, Bool.or_true, Bool.true_or, Bool.not_true, Bool.not_false, ne_eq, not_true_eq_false, not_false_eq_true, List.cons_append, List.nil_append, List.replicate, append_ap, cl0, Cw.s, List.map_cons, List.map_nil, call_v2 x1, call_v2 x2]
  · rw [hN, evT_one, dotA_ev y1 p2 hxs, crossA_ev p0 p1 hxs]
    rcases hw with ⟨rfl, rfl⟩ | ⟨rfl, rfl⟩ <;> rfl
theorem cs_on3 (x : Sr) (hx : x = .line) (z : ZL L) (hL : L ≤ 100) (F : TFit L rs ts) (A : ArgsOk rs (Cw.on x).asks args) : CsOk L rs ts (.on x) args := by
  obtain ⟨sl, sh⟩ := nm_shp F A
  obtain ⟨t0, t1, hN, s0, s1⟩ := nm_two (x := .spot) (y := x) sl sh
  have hxc : x ≠ .curve := by rw [hx]; decide
  obtain ⟨u0, rfl, p0⟩ := shp3 s0 (by decide)
  obtain ⟨u1, rfl, p1⟩ := shp3 s1 hxc
  obtain ⟨x1, y1⟩ := dotG z hL p0 p1 (by decide) (by decide) (by decide)
  have x1 : d_raws_dotted [thL (t3L u0), thL (t3L u1)] = .ok (smF (dotA u0 u1)) [] := x1
  obtain ⟨k, r, a1, hr, hrx⟩ := A.2 1 x rfl
  have c2 : ixD (clD (.on x) args) (.int 2) = some (.int (k : Nat)) := by
    unfold clD
    rw [ixD_tup]
    match args, A.1, a1 with
    | [i0, i1], _, a1 =>
      have : i1 = (k : Int) := by simpa using a1
      subst this
      exact at_2
  have so := sortOf_ok hr
  rw [hrx, hx] at so
  refine ⟨[dotA u0 u1], ?_, pl_one (n := 3) (d := 2) (e := 82) y1 (by decide) (by decide) (by decide), by simp, fun xs hxs => ?_⟩
  · rw [cs_pre F A hN]
    unfold csB
    simp only [dnA, List.getElem?_cons_zero, List.getElem?_cons_succ, List.set_cons_zero, List.set_cons_succ, if_true, Bool.false_eq_true, if_false, ↓reduceIte, decide_true, decide_false, decide_eq_true_eq, Option.elim_some, Option.map_some, String.reduceBEq, Bool.or_false, Bool.false_or, Bool.or_true, Bool.true_or, Bool.not_true, Bool.not_false, ne_eq, not_true_eq_false, not_false_eq_true, List.cons_append, List.nil_append, List.replicate, append_ap, cl0, Cw.s, c2, List.map_cons, List.map_nil, call_v2 so, Sr.s, call_v2 x1]
  · rw [hN, evT_one, dotA_ev p0 p1 hxs]
    simp only [sumsP, List.map_cons, List.map_nil]
    rw [if_neg hxc]
    rfl
theorem cs_on6 (z : ZL L) (hL : L ≤ 100) (F : TFit L rs ts) (A : ArgsOk rs (Cw.on .curve).asks args) : CsOk L rs ts (.on .curve) args := by
  obtain ⟨sl, sh⟩ := nm_shp F A
  obtain ⟨t0, t1, hN, s0, s1⟩ := nm_two (x := .spot) (y := .curve) sl sh
  obtain ⟨u1, rfl, p1⟩ := shp3 s0 (by decide)
  obtain ⟨u0, rfl, p0⟩ := shp6 s1
  obtain ⟨x0, q0, q1, q2⟩ := tabG z p0 (by decide)
  obtain ⟨x1, y1⟩ := ledG z hL q0 q1 q2 p1 (by decide) (by decide) (by decide)
  have x1 : d_raws_led_by [.list [th3 (tab0 u0), th3 (tab1 u0), th3 (tab2 u0)], thL (t3L u1)] = .ok (thL (t3L (ledA (tab0 u0) (tab1 u0) (tab2 u0) u1))) [] := x1
  have y1 : P3P L 3 2 83 (ledA (tab0 u0) (tab1 u0) (tab2 u0) u1) := y1
  obtain ⟨x2, y2⟩ := dotG z hL p1 y1 (by decide) (by decide) (by decide)
  have x2 : d_raws_dotted [thL (t3L u1), thL (t3L (ledA (tab0 u0) (tab1 u0) (tab2 u0) u1))] = .ok (smF (dotA u1 (ledA (tab0 u0) (tab1 u0) (tab2 u0) u1))) [] := x2
  obtain ⟨k, r, a1, hr, hrx⟩ := A.2 1 .curve rfl
  have c2 : ixD (clD (.on .curve) args) (.int 2) = some (.int (k : Nat)) := by
    unfold clD
    rw [ixD_tup]
    match args, A.1, a1 with
    | [i0, i1], _, a1 =>
      have : i1 = (k : Int) := by simpa using a1
      subst this
      exact at_2
  have so := sortOf_ok hr
  rw [hrx] at so
  refine ⟨[dotA u1 (ledA (tab0 u0) (tab1 u0) (tab2 u0) u1)], ?_, pl_one (n := 9) (d := 3) (e := 125) y2 (by decide) (by decide) (by decide), by simp, fun xs hxs => ?_⟩
  · rw [cs_pre F A hN]
    unfold csB
    simp only [dnA, List.getElem?_cons_zero, List.getElem?_cons_succ, List.set_cons_zero, List.set_cons_succ, if_true, Bool.false_eq_true, if_false, ↓reduceIte, decide_true, decide_false, decide_eq_true_eq, Option.elim_some, Option.map_some, String.reduceBEq, Bool.or_false, Bool.false_or, Bool.or_true, Bool.true_or, Bool.not_true, Bool.not_false, ne_eq, not_true_eq_false, not_false_eq_true, List.cons_append, List.nil_append, List.replicate, append_ap, cl0, Cw.s, c2, List.map_cons, List.map_nil, call_v2 so, Sr.s, call_v1 x0, call_v2 x1, call_v2 x2]
  · obtain ⟨h0, h1, h2⟩ := tab_ev p0 xs
    rw [hN, evT_one, dotA_ev p1 y1 hxs, led_ev q0 q1 q2 p1 hxs, h0, h1, h2]
    rfl
theorem cs_touch (z : ZL L) (hL : L ≤ 100) (F : TFit L rs ts) (A : ArgsOk rs Cw.touch.asks args) : CsOk L rs ts .touch args := by
  obtain ⟨sl, sh⟩ := nm_shp F A
  obtain ⟨t0, t1, hN, s0, s1⟩ := nm_two (x := .line) (y := .curve) sl sh
  obtain ⟨u1, rfl, p1⟩ := shp3 s0 (by decide)
  obtain ⟨u0, rfl, p0⟩ := shp6 s1
  obtain ⟨x0, q0, q1, q2⟩ := tabG z p0 (by decide)
  have xs0 := swgG z hL q0 q1 q2 (by decide) (by decide) (by decide)
  have g0 : P3P L 2 2 83 (crossA (tab1 u0) (tab2 u0)) := (crossG z hL q1 q2 (by decide) (by decide) (by decide)).2
  have g1 : P3P L 2 2 83 (crossA (tab2 u0) (tab0 u0)) := (crossG z hL q2 q0 (by decide) (by decide) (by decide)).2
  have g2 : P3P L 2 2 83 (crossA (tab0 u0) (tab1 u0)) := (crossG z hL q0 q1 (by decide) (by decide) (by decide)).2
  obtain ⟨x1, y1⟩ := ledG z hL g0 g1 g2 p1 (by decide) (by decide) (by decide)
  have x1 : d_raws_led_by [.list [th3 (crossA (tab1 u0) (tab2 u0)), th3 (crossA (tab2 u0) (tab0 u0)), th3 (crossA (tab0 u0) (tab1 u0))], thL (t3L u1)] = .ok (thL (t3L (ledA (crossA (tab1 u0) (tab2 u0)) (crossA (tab2 u0) (tab0 u0)) (crossA (tab0 u0) (tab1 u0)) u1))) [] := x1
  have y1 : P3P L 6 3 125 (ledA (crossA (tab1 u0) (tab2 u0)) (crossA (tab2 u0) (tab0 u0)) (crossA (tab0 u0) (tab1 u0)) u1) := y1
  obtain ⟨x2, y2⟩ := dotG z hL p1 y1 (by decide) (by decide) (by decide)
  generalize hl : ledA (crossA (tab1 u0) (tab2 u0)) (crossA (tab2 u0) (tab0 u0)) (crossA (tab0 u0) (tab1 u0)) u1 = ld at *
  have x2 : d_raws_dotted [thL (t3L u1), thL (t3L ld)] = .ok (smF (dotA u1 ld)) [] := x2
  refine ⟨[dotA u1 ld], ?_, pl_one (n := 18) (d := 4) (e := 167) y2 (by decide) (by decide) (by decide), by simp, fun xs hxs => ?_⟩
  · rw [cs_pre F A hN]
    unfold csB
    simp only [dnA, List.getElem?_cons_zero, List.getElem?_cons_succ, List.set_cons_zero, List.set_cons_succ, if_true, Bool.false_eq_true, if_false, ↓reduceIte, decide_true, decide_false, decide_eq_true_eq, Option.elim_some, Option.map_some, String.reduceBEq, Bool.or_false, Bool.false_or, Bool.or_true, Bool.true_or, Bool.not_true, Bool.not_false, ne_eq, not_true_eq_false, not_false_eq_true, List.cons_append, List.nil_append, List.replicate, append_ap, cl0, Cw.s, List.map_cons, List.map_nil, call_v1 x0, call_v1 xs0, call_v2 x1, call_v2 x2]
  · obtain ⟨h0, h1, h2⟩ := tab_ev p0 xs
    rw [hN, evT_one, dotA_ev p1 y1 hxs, ← hl, led_ev g0 g1 g2 p1 hxs, crossA_ev q1 q2 hxs, crossA_ev q2 q0 hxs, crossA_ev q0 q1 hxs, h0, h1, h2]
    rfl
theorem cs_parted (z : ZL L) (hL : L ≤ 100) (F : TFit L rs ts) (A : ArgsOk rs Cw.parted.asks args) : CsOk L rs ts .parted args := by
  obtain ⟨sl, sh⟩ := nm_shp F A
  obtain ⟨t0, hN, s0⟩ : ∃ t0, nm ts args = [t0] ∧ shp L .curve t0 := by
    obtain ⟨t0, h0, s0⟩ := sh 0 .curve rfl
    match nm ts args, sl, h0 with
    | [a], _, h0 =>
      have : a = t0 := by simpa using h0
      subst this
      exact ⟨_, rfl, s0⟩
  obtain ⟨u0, rfl, p0⟩ := shp6 s0
  obtain ⟨x0, q0, q1, q2⟩ := tabG z p0 (by decide)
  obtain ⟨x1, y1⟩ := crossG z hL q1 q2 (by decide) (by decide) (by decide)
  have y1 : P3P L 2 2 83 (crossA (tab1 u0) (tab2 u0)) := y1
  obtain ⟨x2, y2⟩ := dotG z hL q0 y1 (by decide) (by decide) (by decide)
  refine ⟨[dotA (tab0 u0) (crossA (tab1 u0) (tab2 u0))], ?_, pl_one (n := 6) (d := 3) (e := 126) y2 (by decide) (by decide) (by decide), by simp, fun xs hxs => ?_⟩
  · rw [cs_pre F A hN]
    unfold csB
    simp only [dnA, List.getElem?_cons_zero, List.getElem?_cons_succ, List.set_cons_zero, List.set_cons_succ, if_true, Bool.false_eq_true, if_false, ↓reduceIte, decide_true, decide_false, decide_eq_true_eq, Option.elim_some, Option.map_some, String.reduceBEq, Bool.or_false, Bool.false_or, Bool.or_true, Bool.true_or, Bool.not_true, Bool.not_false, ne_eq, not_true_eq_false, not_false_eq_true, List.cons_append, List.nil_append, List.replicate, append_ap, cl0, Cw.s, List.map_cons, List.map_nil, call_v1 x0, call_v2 x1, call_v2 x2]
  · obtain ⟨h0, h1, h2⟩ := tab_ev p0 xs
    rw [hN, evT_one, dotA_ev q0 y1 hxs, crossA_ev q1 q2 hxs, h0, h1, h2]
    rfl
theorem ms_ev {n1 d1 e1 n2 d2 e2 : Nat} {a b a' b' : AL} (ha : Pol L n1 d1 e1 a) (hb : Pol L n2 d2 e2 b) (ha' : Pol L n1 d1 e1 a') (hb' : Pol L n2 d2 e2 b') {xs : List Int} (hx : xs.length = L) :
    evL (minusA (timesA a b) (timesA a' b')) xs = evL a xs * evL b xs - evL a' xs * evL b' xs := by
  have q1 := timesA_pol (n := n1 * n2) (d := d1 + d2) (e := e1 + e2) ha hb (Nat.le_refl _) (Nat.le_refl _) (Nat.le_refl _)
  rw [minusA_ev q1.nf, timesA_ev ha.nf hb.nf hx, timesA_ev ha'.nf hb'.nf hx]
theorem t6_at (u : T6) {i : Nat} (hi : i < 6) : ixD (thL (t6L u)) (.int (i : Nat)) = some (smF ((t6L u).getD i [])) := by
  unfold thL
  rw [ixD_tup, at_nat i (by simpa [t6L] using hi), List.getElem?_map, List.getD_eq_getElem?_getD]
  obtain ⟨a, b, c, d, e, f⟩ := u
  have : i = 0 ∨ i = 1 ∨ i = 2 ∨ i = 3 ∨ i = 4 ∨ i = 5 := by omega
  rcases this with rfl | rfl | rfl | rfl | rfl | rfl <;> rfl
theorem t6_mem (u : T6) {i : Nat} (hi : i < 6) : (t6L u).getD i [] ∈ t6L u := by
  obtain ⟨a, b, c, d, e, f⟩ := u
  have : i = 0 ∨ i = 1 ∨ i = 2 ∨ i = 3 ∨ i = 4 ∨ i = 5 := by omega
  rcases this with rfl | rfl | rfl | rfl | rfl | rfl <;> simp [t6L]
theorem t6_ev (u : T6) (xs : List Int) {i : Nat} (hi : i < 6) : (evT (t6L u) xs).getD i 0 = evL ((t6L u).getD i []) xs := by
  obtain ⟨a, b, c, d, e, f⟩ := u
  have : i = 0 ∨ i = 1 ∨ i = 2 ∨ i = 3 ∨ i = 4 ∨ i = 5 := by omega
  rcases this with rfl | rfl | rfl | rfl | rfl | rfl <;> rfl
theorem two15_lt : ∀ q ∈ two15, q.1 < 6 ∧ q.2 < 6 := by decide
def prD (q : Nat × Nat) : D := .tuple [.int (q.1 : Nat), .int (q.2 : Nat)]
theorem two15_zip : zipL k_FIRST_OF_TWO k_SECOND_OF_TWO = some (two15.map prD) := rfl
theorem cs_same6 (z : ZL L) (hL : L ≤ 100) (F : TFit L rs ts) (A : ArgsOk rs (Cw.same .curve).asks args) : CsOk L rs ts (.same .curve) args := by
  obtain ⟨sl, sh⟩ := nm_shp F A
  obtain ⟨t0, t1, hN, s0, s1⟩ := nm_two (x := .curve) (y := .curve) sl sh
  obtain ⟨u, rfl, pu⟩ := shp6 s0
  obtain ⟨w, rfl, pw⟩ := shp6 s1
  let F2 : Nat × Nat → AL := fun q => minusA (timesA ((t6L u).getD q.1 []) ((t6L w).getD q.2 [])) (timesA ((t6L u).getD q.2 []) ((t6L w).getD q.1 []))
  have key : ∀ q ∈ two15, d_letters_times [smF ((t6L u).getD q.1 []), smF ((t6L w).getD q.2 [])] = .ok (smF (timesA ((t6L u).getD q.1 []) ((t6L w).getD q.2 []))) [] ∧
      d_letters_times [smF ((t6L u).getD q.2 []), smF ((t6L w).getD q.1 [])] = .ok (smF (timesA ((t6L u).getD q.2 []) ((t6L w).getD q.1 []))) [] ∧
      d_letters_minus [smF (timesA ((t6L u).getD q.1 []) ((t6L w).getD q.2 [])), smF (timesA ((t6L u).getD q.2 []) ((t6L w).getD q.1 []))] = .ok (smF (F2 q)) [] ∧ Pol L 2 2 81 (F2 q) := fun q hq => by
    obtain ⟨l1, l2⟩ := two15_lt q hq
    obtain ⟨x1, y1⟩ := timesG z hL (pu _ (t6_mem u l1)) (pw _ (t6_mem w l2)) (by decide) (by decide)
    obtain ⟨x2, y2⟩ := timesG z hL (pu _ (t6_mem u l2)) (pw _ (t6_mem w l1)) (by decide) (by decide)
    obtain ⟨x3, y3⟩ := minusG z y1 y2 (by decide)
    exact ⟨x1, x2, x3, y3⟩
  refine ⟨two15.map F2, ?_, fun t ht => ?_, by rw [List.length_map]; decide, fun xs hxs => ?_⟩
  · rw [cs_pre F A hN]
    unfold csB
    simp only [dnA, List.getElem?_cons_zero, List.getElem?_cons_succ, List.set_cons_zero, List.set_cons_succ, if_true, Bool.false_eq_true, if_false, ↓reduceIte, decide_true, decide_false, decide_eq_true_eq, Option.elim_some, Option.map_some, String.reduceBEq, Bool.or_false, Bool.false_or, Bool.or_true, Bool.true_or, Bool.not_true, Bool.not_false, ne_eq, not_true_eq_false, not_false_eq_true, List.cons_append, List.nil_append, List.replicate, append_ap, cl0, Cw.s, List.map_cons, List.map_nil, len6T, show ¬ ((6 : Int) = 3) by decide]
    have t2 : ∀ {i j : Nat} {x y : D} {ρ : Env}, tg (.tp [i, j]) (.list [x, y]) ρ = some ((ρ.set i (.val x)).set j (.val y)) := rfl
    have t3 : ∀ {i j : Nat} {q : Nat × Nat} {ρ : Env}, tg (.tp [i, j]) (prD q) ρ = some ((ρ.set i (.val (.int (q.1 : Nat)))).set j (.val (.int (q.2 : Nat)))) := rfl
    simp only [dnA, List.getElem?_cons_zero, List.getElem?_cons_succ, List.set_cons_zero, List.set_cons_succ, if_true, Bool.false_eq_true, if_false, ↓reduceIte, decide_true, decide_false, decide_eq_true_eq, Option.elim_some, Option.map_some, String.reduceBEq, Bool.or_false, Bool.false_or, Bool.or_true, Bool.true_or, Bool.not_true, Bool.not_false, ne_eq, not_true_eq_false, not_false_eq_true, List.cons_append, List.nil_append, List.replicate, append_ap, t2, zipM, two15_zip]
    rw [lcO_over two15 prD prD (fun _ => true), filter_all]
    rotate_left
    · exact fun q _ => ⟨_, t3, rfl, rfl, fun _ => by simp only [dnA, List.getElem?_cons_zero, List.getElem?_cons_succ, List.set_cons_zero, List.set_cons_succ, if_true, Bool.false_eq_true, if_false, ↓reduceIte, decide_true, decide_false, decide_eq_true_eq, Option.elim_some, Option.map_some, String.reduceBEq, Bool.or_false, Bool.false_or, Bool.or_true, Bool.true_or, Bool.not_true, Bool.not_false, ne_eq, not_true_eq_false, not_false_eq_true, List.cons_append, List.nil_append, List.replicate, append_ap, prD]⟩
    · rfl
    · rfl
    · decide
    simp only [dnA, List.getElem?_cons_zero, List.getElem?_cons_succ, List.set_cons_zero, List.set_cons_succ, if_true, Bool.false_eq_true, if_false, ↓reduceIte, decide_true, decide_false, decide_eq_true_eq, Option.elim_some, Option.map_some, String.reduceBEq, Bool.or_false, Bool.false_or, Bool.or_true, Bool.true_or, Bool.not_true, Bool.not_false, ne_eq, not_true_eq_false, not_false_eq_true, List.cons_append, List.nil_append, List.replicate, append_ap]
    rw [lcO_over two15 prD (fun q => smF (F2 q)) (fun _ => true), filter_all]
    rotate_left
    · intro q hq
      obtain ⟨l1, l2⟩ := two15_lt q hq
      obtain ⟨x1, x2, x3, _⟩ := key q hq
      exact ⟨_, t3, rfl, rfl, fun _ => by simp only [dnA, List.getElem?_cons_zero, List.getElem?_cons_succ, List.set_cons_zero, List.set_cons_succ, if_true, Bool.false_eq_true, if_false, ↓reduceIte, decide_true, decide_false, decide_eq_true_eq, Option.elim_some, Option.map_some, String.reduceBEq, Bool.or_false, Bool.false_or, Bool.or_true, Bool.true_or, Bool.not_true, Bool.not_false, ne_eq, not_true_eq_false, not_false_eq_true, List.cons_append, List.nil_append, List.replicate, append_ap, t6_at u l1, t6_at u l2, t6_at w l1, t6_at w l2, call_v2 x1, call_v2 x2, call_v2 x3]⟩
    · rfl
    · rfl
    · decide
    simp only [dnA, List.getElem?_cons_zero, List.getElem?_cons_succ, List.set_cons_zero, List.set_cons_succ, if_true, Bool.false_eq_true, if_false, ↓reduceIte, decide_true, decide_false, decide_eq_true_eq, Option.elim_some, Option.map_some, String.reduceBEq, Bool.or_false, Bool.false_or, Bool.or_true, Bool.true_or, Bool.not_true, Bool.not_false, ne_eq, not_true_eq_false, not_false_eq_true, List.cons_append, List.nil_append, List.replicate, append_ap]
    rw [List.map_map]
    rfl
  · obtain ⟨q, hq, rfl⟩ := List.mem_map.mp ht
    exact (key q hq).2.2.2.mono (by decide) (by decide) (by decide)
  · rw [hN]
    simp only [sumsP, List.map_cons, List.map_nil, if_true, evT]
    rw [List.map_map]
    refine List.map_congr_left fun q hq => ?_
    obtain ⟨l1, l2⟩ := two15_lt q hq
    have e1 := t6_ev u xs l1
    have e2 := t6_ev u xs l2
    have e3 := t6_ev w xs l1
    have e4 := t6_ev w xs l2
    unfold evT at e1 e2 e3 e4
    rw [e1, e2, e3, e4]
    exact ms_ev (pu _ (t6_mem u l1)) (pw _ (t6_mem w l2)) (pu _ (t6_mem u l2)) (pw _ (t6_mem w l1)) hxs
theorem csums_ok {w : Cw} (z : ZL L) (hL : L ≤ 100) (F : TFit L rs ts) (ok : w.ok) (A : ArgsOk rs w.asks args) : CsOk L rs ts w args := by
  cases w with
  | same x =>
    by_cases h : x = .curve
    · subst h
      exact cs_same6 z hL F A
    · exact cs_same3 x h z hL F A
  | on x =>
    cases x with
    | spot => exact absurd rfl ok
    | line => exact cs_on3 .line rfl z hL F A
    | curve => exact cs_on6 z hL F A
  | row => exact cs_turn .spot (by decide) .row (.inl ⟨rfl, rfl⟩) z hL F A
  | bunch => exact cs_turn .line (by decide) .bunch (.inr ⟨rfl, rfl⟩) z hL F A
  | touch => exact cs_touch z hL F A
  | parted => exact cs_parted z hL F A
end
end Dn


/-! DtT: the law's own numbers of a claim. -/
namespace Dn
open PySem
def iT (l : List Int) : D := .tuple (l.map PyData.int)
def lsh (x : Sr) (l : List Int) : Prop := l.length = (if x = .curve then 6 else 3) ∧ ∀ y ∈ l, lg y ≤ 1000
theorem lsh3 {x : Sr} {l : List Int} (h : lsh x l) (hx : x ≠ .curve) : iT l = pD (lp l) ∧ VP 1000 (lp l) := by
  obtain ⟨h1, h2⟩ := h
  rw [if_neg hx] at h1
  match l, h1 with
  | [a, b, c], _ => exact ⟨rfl, h2 a (by simp), h2 b (by simp), h2 c (by simp)⟩
theorem lsh6 {l : List Int} (h : lsh .curve l) : iT l = qD (lq l) ∧ VQ 1000 (lq l) := by
  obtain ⟨h1, h2⟩ := h
  rw [if_pos rfl] at h1
  match l, h1 with
  | [a, b, c, d, e, f], _ => exact ⟨rfl, h2 a (by simp), h2 b (by simp), h2 c (by simp), h2 d (by simp), h2 e (by simp), h2 f (by simp)⟩
def absL (xs : List Int) : List Int := xs.map fun x => ((x.natAbs : Nat) : Int)
def lawP (n : Nat) : List (Nat × Nat) := (List.range n).flatMap fun i => (List.range i).map fun j => (i, j)
theorem lawP_succ (n : Nat) : lawP (n + 1) = lawP n ++ (List.range n).map fun j => (n, j) := by
  unfold lawP
  rw [List.range_succ, List.flatMap_append]
  simp
def hP (u w : List Int) (q : Nat × Nat) : Int := ((u.getD q.1 0 * w.getD q.2 0 - u.getD q.2 0 * w.getD q.1 0).natAbs : Nat)
theorem sortZ_perm {l m : List Int} (h : l.Perm m) : sortG ltZ l = sortG ltZ m := srtG_uniq ordZ (sortG_srt ordZ _) (sortG_srt ordZ _) ((sortG_perm _).trans (h.trans (sortG_perm _).symm))
theorem sortZ_ints (l : List Int) : sortZD [.list (l.map PyData.int)] = some (.list ((sortG ltZ l).map PyData.int)) := by
  show (allInts (l.map PyData.int)).map _ = _
  rw [allInts_mk]
  rfl
theorem abs_comm (a b : Int) : (a - b).natAbs = (b - a).natAbs := by omega
theorem law_perm {x : Sr} {u w : List Int} (hu : u.length = (if x = .curve then 6 else 3)) (hw : w.length = (if x = .curve then 6 else 3)) :
    sortG ltZ ((lawP u.length).map (hP u w)) = sortG ltZ (absL (sumsP (.same x) [u, w])) := by
  refine sortZ_perm ?_
  simp only [sumsP]
  by_cases hx : x = .curve
  · rw [if_pos hx] at hu hw
    rw [if_pos hx, hu]
    have e : absL (two15.map fun q => u.getD q.1 0 * w.getD q.2 0 - u.getD q.2 0 * w.getD q.1 0) = (two15.map fun q => (q.2, q.1)).map (hP u w) := by
      unfold absL
      rw [List.map_map, List.map_map]
      refine List.map_congr_left fun q _ => ?_
      show (((_ : Int).natAbs : Nat) : Int) = (((_ : Int).natAbs : Nat) : Int)
      rw [abs_comm]
    rw [e]
    exact List.Perm.map _ (by decide)
  · rw [if_neg hx] at hu hw
    rw [if_neg hx, hu]
    match u, w, hu, hw with
    | [a, b, c], [d, e, f], _, _ =>
      have e : absL (lstP (crossP (lp [a, b, c]) (lp [d, e, f]))) = ((lawP 3).map (hP [a, b, c] [d, e, f])).reverse := by
        show [(((b * f - c * e).natAbs : Nat) : Int), (((c * d - a * f).natAbs : Nat) : Int), (((a * e - b * d).natAbs : Nat) : Int)] = [(((c * e - b * f).natAbs : Nat) : Int), (((c * d - a * f).natAbs : Nat) : Int), (((b * d - a * e).natAbs : Nat) : Int)]
        rw [abs_comm (b * f), abs_comm (a * e)]
      rw [e]
      exact (List.reverse_perm _).symm
theorem iT_at {l : List Int} {i : Nat} (h : i < l.length) : at_ (l.map PyData.int) (i : Int) = some (.int (l.getD i 0)) := by
  rw [at_nat i (by simpa using h), List.getElem?_map, List.getD_eq_getElem?_getD, List.getElem?_eq_getElem h]
  rfl
theorem lgD {l : List Int} (h : ∀ y ∈ l, lg y ≤ 1000) (i : Nat) : lg (l.getD i 0) ≤ 1000 := by
  rw [List.getD_eq_getElem?_getD]
  cases e : l[i]? with
  | none => exact Nat.zero_le _
  | some y => exact h y (List.mem_of_getElem? e)
theorem ls_two {ls : List (List Int)} {x y : Sr} (sl : ls.length = 2) (sh : ∀ (i : Nat) (z : Sr), [x, y][i]? = some z → ∃ t, ls[i]? = some t ∧ lsh z t) : ∃ t0 t1, ls = [t0, t1] ∧ lsh x t0 ∧ lsh y t1 := by
  obtain ⟨t0, h0, s0⟩ := sh 0 x rfl
  obtain ⟨t1, h1, s1⟩ := sh 1 y rfl
  match ls, sl, h0, h1 with
  | [a, b], _, h0, h1 =>
    simp at h0 h1
    subst h0 h1
    exact ⟨_, _, rfl, s0, s1⟩
theorem ls_three {ls : List (List Int)} {x y w : Sr} (sl : ls.length = 3) (sh : ∀ (i : Nat) (z : Sr), [x, y, w][i]? = some z → ∃ t, ls[i]? = some t ∧ lsh z t) : ∃ t0 t1 t2, ls = [t0, t1, t2] ∧ lsh x t0 ∧ lsh y t1 ∧ lsh w t2 := by
  obtain ⟨t0, h0, s0⟩ := sh 0 x rfl
  obtain ⟨t1, h1, s1⟩ := sh 1 y rfl
  obtain ⟨t2, h2, s2⟩ := sh 2 w rfl
  match ls, sl, h0, h1, h2 with
  | [a, b, c], _, h0, h1, h2 =>
    simp at h0 h1 h2
    subst h0 h1 h2
    exact ⟨_, _, _, rfl, s0, s1, s2⟩
/-- what is due of the law's numbers -/
def NumOk (R : D) (w : Cw) (args : List Int) (ls : List (List Int)) : Prop :=
  d_law_law_numbers [R, .list (ls.map iT), clD w args] = .ok (.list ((sortG ltZ (absL (sumsP w ls))).map PyData.int)) []
section
variable {R : D} {args : List Int} {ls : List (List Int)}
theorem num_same {x : Sr} (sl : ls.length = 2) (sh : ∀ (i : Nat) (z : Sr), [x, x][i]? = some z → ∃ t, ls[i]? = some t ∧ lsh z t) : NumOk R (.same x) args ls := by
  obtain ⟨u, w, rfl, s0, s1⟩ := ls_two sl sh
  have hu6 : u.length ≤ 6 := by rw [s0.1]; split <;> omega
  have hwu : w.length = u.length := by rw [s0.1, s1.1]
  unfold NumOk d_law_law_numbers b_law_law_numbers
  rw [runD_ap rfl]
  have t2 : ∀ {i j : Nat} {x y : D} {ρ : Env}, tg (.tp [i, j]) (.list [x, y]) ρ = some ((ρ.set i (.val x)).set j (.val y)) := rfl
  have hl : lenD [iT u] = some (.int (u.length : Nat)) := by show some (PyData.int ((u.map PyData.int).length : Nat)) = _; rw [List.length_map]
  simp only [dnA, List.getElem?_cons_zero, List.getElem?_cons_succ, List.set_cons_zero, List.set_cons_succ, if_true, Bool.false_eq_true, if_false, ↓reduceIte, decide_true, decide_false, decide_eq_true_eq, Option.elim_some, Option.map_some, String.reduceBEq, Bool.or_false, Bool.false_or, Bool.or_true, Bool.true_or, Bool.not_true, Bool.not_false, ne_eq, not_true_eq_false, not_false_eq_true, List.cons_append, List.nil_append, List.replicate, append_ap, cl0, Cw.s, List.map_cons, List.map_nil, t2, forI_ap, hl, range1_int (i := (u.length : Int)) (by omega) (by omega)]
  generalize hg : forN _ _ _ _ _ _ _ = g
  obtain ⟨ρ1, rfl, s6, s9, rfl⟩ := forN_inv' hg rfl (fun k ρ => ∃ s6 s9 : Slot, ρ = [.val R, .val (.list [iT u, iT w]), .val (clD (.same x) args), .un, .un, .own true (.list (((lawP k).map (hP u w)).map PyData.int)), s6, .val (iT u), .val (iT w), s9, .un]) ⟨_, _, rfl⟩ (fun k d ρ hd hP' => by
    obtain ⟨s6, s9, rfl⟩ := hP'
    obtain ⟨rfl, hlt⟩ := rangeL_get hd
    have ek0 : (0 + (k : Int)) = (k : Int) := by omega
    rw [ek0]
    refine ⟨_, rfl, ?_⟩
    simp only [dnA, List.getElem?_cons_zero, List.getElem?_cons_succ, List.set_cons_zero, List.set_cons_succ, if_true, Bool.false_eq_true, if_false, ↓reduceIte, decide_true, decide_false, decide_eq_true_eq, Option.elim_some, Option.map_some, String.reduceBEq, Bool.or_false, Bool.false_or, Bool.or_true, Bool.true_or, Bool.not_true, Bool.not_false, ne_eq, not_true_eq_false, not_false_eq_true, List.cons_append, List.nil_append, List.replicate, append_ap, forI_ap, range1_int (i := (k : Int)) (by omega) (by omega)]
    generalize hg2 : forN _ _ _ _ _ _ _ = g2
    obtain ⟨ρ2, rfl, u9, h2⟩ := forN_inv' hg2 rfl (fun j ρ => ∃ u9 : Slot, ρ = [.val R, .val (.list [iT u, iT w]), .val (clD (.same x) args), .un, .un, .own true (.list (((lawP k ++ (List.range j).map fun j => (k, j)).map (hP u w)).map PyData.int)), .val (.int k), .val (iT u), .val (iT w), u9, .un]) ⟨_, by simp; rfl⟩ (fun j d ρ hd hP' => by
      obtain ⟨u9, rfl⟩ := hP'
      obtain ⟨rfl, hlj⟩ := rangeL_get hd
      have ej0 : (0 + (j : Int)) = (j : Int) := by omega
      rw [ej0]
      have hk : k < u.length := by omega
      have hj : j < u.length := by omega
      have i1 : ixD (iT u) (.int (k : Int)) = some (.int (u.getD k 0)) := iT_at hk
      have i2 : ixD (iT u) (.int (j : Int)) = some (.int (u.getD j 0)) := iT_at hj
      have i3 : ixD (iT w) (.int (k : Int)) = some (.int (w.getD k 0)) := iT_at (by omega)
      have i4 : ixD (iT w) (.int (j : Int)) = some (.int (w.getD j 0)) := iT_at (by omega)
      have b1 := lgD s0.2 k
      have b2 := lgD s0.2 j
      have b3 := lgD s1.2 k
      have b4 := lgD s1.2 j
      have hlen : (((lawP k ++ (List.range j).map fun j => (k, j)).map (hP u w)).map PyData.int).length < 1000000 := by
        have hll : ∀ k, k ≤ 6 → (lawP k).length ≤ 15 := by decide
        have := hll k (by omega)
        simp
        omega
      have hap := appD_lst (x := .int (hP u w (k, j))) hlen
      have eap : ((lawP k ++ (List.range j).map fun j => (k, j)).map (hP u w)).map PyData.int ++ [.int (hP u w (k, j))] = ((lawP k ++ (List.range (j + 1)).map fun j => (k, j)).map (hP u w)).map PyData.int := by
        rw [List.range_succ]
        simp
      rw [eap] at hap
      refine ⟨_, rfl, _, .inl ?_, .val (.int j), rfl⟩
      simp only [dnA, List.getElem?_cons_zero, List.getElem?_cons_succ, List.set_cons_zero, List.set_cons_succ, if_true, Bool.false_eq_true, if_false, ↓reduceIte, decide_true, decide_false, decide_eq_true_eq, Option.elim_some, Option.map_some, String.reduceBEq, Bool.or_false, Bool.false_or, Bool.or_true, Bool.true_or, Bool.not_true, Bool.not_false, ne_eq, not_true_eq_false, not_false_eq_true, List.cons_append, List.nil_append, List.replicate, append_ap, i1, i2, i3, i4, mulB _ _ (Nat.le_trans b1 (by decide)) (Nat.le_trans b4 (by decide)), mulB _ _ (Nat.le_trans b2 (by decide)) (Nat.le_trans b3 (by decide)), show ((((u.getD k 0 * w.getD j 0 - u.getD j 0 * w.getD k 0).natAbs : Nat) : Int)) = hP u w (k, j) from rfl, hap])
    rw [rangeL_len, show ((k : Int) - 0).toNat = k by omega, ← lawP_succ] at h2
    exact ⟨_, .inl rfl, _, _, h2⟩)
  rw [rangeL_len, show ((u.length : Int) - 0).toNat = u.length by omega]
  have e : (lawP u.length).map (hP u w) = (lawP u.length).map (hP u w) := rfl
  simp only [dnA, List.getElem?_cons_zero, List.getElem?_cons_succ, List.set_cons_zero, List.set_cons_succ, if_true, Bool.false_eq_true, if_false, ↓reduceIte, decide_true, decide_false, decide_eq_true_eq, Option.elim_some, Option.map_some, String.reduceBEq, Bool.or_false, Bool.false_or, Bool.or_true, Bool.true_or, Bool.not_true, Bool.not_false, ne_eq, not_true_eq_false, not_false_eq_true, List.cons_append, List.nil_append, List.replicate, append_ap, sortZ_ints, law_perm s0.1 s1.1]
theorem one_abs (x : Int) : (sortG ltZ (absL [x])).map PyData.int = [.int ((x.natAbs : Nat) : Int)] := rfl
theorem num_on {x : Sr} (hx : x ≠ .spot) (sl : ls.length = 2) (sh : ∀ (i : Nat) (z : Sr), [.spot, x][i]? = some z → ∃ t, ls[i]? = some t ∧ lsh z t) : NumOk R (.on x) args ls := by
  obtain ⟨u, w, rfl, s0, s1⟩ := ls_two sl sh
  obtain ⟨e0, p0⟩ := lsh3 s0 (by decide)
  unfold NumOk d_law_law_numbers b_law_law_numbers
  rw [runD_ap rfl]
  by_cases hc : x = .curve
  · subst hc
    obtain ⟨e1, p1⟩ := lsh6 s1
    have hl : lenD [qD (lq w)] = some (.int 6) := rfl
    have xt := ltimes_p (p1.mono (by decide)) (p0.mono (by decide))
    have xd := ldot_p (p0.mono (by decide)) ((p1.times p0).mono (by decide))
    simp only [dnA, List.getElem?_cons_zero, List.getElem?_cons_succ, List.set_cons_zero, List.set_cons_succ, if_true, Bool.false_eq_true, if_false, ↓reduceIte, decide_true, decide_false, decide_eq_true_eq, Option.elim_some, Option.map_some, String.reduceBEq, Bool.or_false, Bool.false_or, Bool.or_true, Bool.true_or, Bool.not_true, Bool.not_false, ne_eq, not_true_eq_false, not_false_eq_true, List.cons_append, List.nil_append, List.replicate, append_ap, cl0, Cw.s, List.map_cons, List.map_nil, e0, e1, hl, show ¬ ((6 : Int) = 3) by decide, call_v2 xt, call_v2 xd]
    rfl
  · obtain ⟨e1, p1⟩ := lsh3 s1 hc
    have hl : lenD [pD (lp w)] = some (.int 3) := rfl
    have xd := ldot_p (p0.mono (by decide)) (p1.mono (by decide))
    simp only [dnA, List.getElem?_cons_zero, List.getElem?_cons_succ, List.set_cons_zero, List.set_cons_succ, if_true, Bool.false_eq_true, if_false, ↓reduceIte, decide_true, decide_false, decide_eq_true_eq, Option.elim_some, Option.map_some, String.reduceBEq, Bool.or_false, Bool.false_or, Bool.or_true, Bool.true_or, Bool.not_true, Bool.not_false, ne_eq, not_true_eq_false, not_false_eq_true, List.cons_append, List.nil_append, List.replicate, append_ap, cl0, Cw.s, List.map_cons, List.map_nil, e0, e1, hl, call_v2 xd]
    simp only [sumsP, if_neg hc]
    rfl
theorem num_turn {x : Sr} {w : Cw} (hx : x ≠ .curve) (hw : (w = .row ∧ x = .spot) ∨ (w = .bunch ∧ x = .line)) (sl : ls.length = 3) (sh : ∀ (i : Nat) (z : Sr), [x, x, x][i]? = some z → ∃ t, ls[i]? = some t ∧ lsh z t) : NumOk R w args ls := by
  obtain ⟨t0, t1, t2, rfl, s0, s1, s2⟩ := ls_three sl sh
  obtain ⟨e0, p0⟩ := lsh3 s0 hx
  obtain ⟨e1, p1⟩ := lsh3 s1 hx
  obtain ⟨e2, p2⟩ := lsh3 s2 hx
  have xt := lturn_p (p0.mono (by decide)) (p1.mono (by decide)) (p2.mono (by decide))
  unfold NumOk d_law_law_numbers b_law_law_numbers
  rw [runD_ap rfl]
  rcases hw with ⟨rfl, rfl⟩ | ⟨rfl, rfl⟩
  · simp only [dnA, List.getElem?_cons_zero, List.getElem?_cons_succ, List.set_cons_zero, List.set_cons_succ, if_true, Bool.false_eq_true, if_false, ↓reduceIte, decide_true, decide_false, decide_eq_true_eq, Option.elim_some, Option.map_some, String.reduceBEq, Bool.or_false, Bool.false_or, Bool.or_true, Bool.true_or, Bool.not_true, Bool.not_false, ne_eq, not_true_eq_false, not_false_eq_true, List.cons_append, List.nil_append, List.replicate, append_ap, dcA, Option.bind_some, List.all_cons, List.all_nil, List.length_cons, List.length_nil, List.isEmpty_nil, List.isEmpty_cons, List.contains_cons, List.contains_nil, Nat.reduceBEq, Nat.reduceAdd, Nat.reduceLeDiff, Bool.and_true, Bool.true_and, cl0, Cw.s, List.map_cons, List.map_nil, e0, e1, e2, xt]
    rfl
  · simp only [dnA, List.getElem?_cons_zero, List.getElem?_cons_succ, List.set_cons_zero, List.set_cons_succ, if_true, Bool.false_eq_true, if_false, ↓reduceIte, decide_true, decide_false, decide_eq_true_eq, Option.elim_some, Option.map_some, String.reduceBEq, Bool.or_false, Bool.false_or, Bool.or_true, Bool.true_or, Bool.not_true, Bool.not_false, ne_eq, not_true_eq_false, not_false_eq_true, List.cons_append, List.nil_append, List.replicate, append_ap, dcA, Option.bind_some, List.all_cons, List.all_nil, List.length_cons, List.length_nil, List.isEmpty_nil, List.isEmpty_cons, List.contains_cons, List.contains_nil, Nat.reduceBEq, Nat.reduceAdd, Nat.reduceLeDiff, Bool.and_true, Bool.true_and, cl0, Cw.s, List.map_cons, List.map_nil, e0, e1, e2, xt]
    rfl
theorem num_parted (sl : ls.length = 1) (sh : ∀ (i : Nat) (z : Sr), [Sr.curve][i]? = some z → ∃ t, ls[i]? = some t ∧ lsh z t) : NumOk R .parted args ls := by
  obtain ⟨t0, h0, s0⟩ := sh 0 .curve rfl
  obtain ⟨e0, p0⟩ := lsh6 s0
  have : ls = [t0] := by
    match ls, sl, h0 with
    | [a], _, h0 => simpa using h0
  subst this
  obtain ⟨r0, r1, r2⟩ := p0.rows
  have hlast : at_ [qD (lq t0)] (-1) = some (qD (lq t0)) := at_last (by simp)
  have xr := lrows_ok (p0.mono (by decide))
  have xt := lturn_p (r0.mono (by decide)) (r1.mono (by decide)) (r2.mono (by decide))
  unfold NumOk d_law_law_numbers b_law_law_numbers
  rw [runD_ap rfl]
  simp only [dnA, List.getElem?_cons_zero, List.getElem?_cons_succ, List.set_cons_zero, List.set_cons_succ, if_true, Bool.false_eq_true, if_false, ↓reduceIte, decide_true, decide_false, decide_eq_true_eq, Option.elim_some, Option.map_some, String.reduceBEq, Bool.or_false, Bool.false_or, Bool.or_true, Bool.true_or, Bool.not_true, Bool.not_false, ne_eq, not_true_eq_false, not_false_eq_true, List.cons_append, List.nil_append, List.replicate, append_ap, dcA, Option.bind_some, List.all_cons, List.all_nil, List.length_cons, List.length_nil, List.isEmpty_nil, List.isEmpty_cons, List.contains_cons, List.contains_nil, Nat.reduceBEq, Nat.reduceAdd, Nat.reduceLeDiff, Bool.and_true, Bool.true_and, cl0, Cw.s, List.map_cons, List.map_nil, e0, hlast, xr, xt]
  simp only [sumsP, dot_turn]
  rfl
theorem num_touch (sl : ls.length = 2) (sh : ∀ (i : Nat) (z : Sr), [Sr.line, Sr.curve][i]? = some z → ∃ t, ls[i]? = some t ∧ lsh z t) : NumOk R .touch args ls := by
  obtain ⟨u, w, rfl, s0, s1⟩ := ls_two sl sh
  obtain ⟨e0, p0⟩ := lsh3 s0 (by decide)
  obtain ⟨e1, p1⟩ := lsh6 s1
  obtain ⟨r0, r1, r2⟩ := p1.rows
  have hlast : at_ [pD (lp u), qD (lq w)] (-1) = some (qD (lq w)) := at_last (by simp)
  have xr := lrows_ok (p1.mono (by decide))
  have g0 := lcross_p (r1.mono (by decide)) (r2.mono (by decide))
  have g1 := lcross_p (r2.mono (by decide)) (r0.mono (by decide))
  have g2 := lcross_p (r0.mono (by decide)) (r1.mono (by decide))
  have v0 := r1.cross r2
  have v1 := r2.cross r0
  have v2 := r0.cross r1
  have d0 := v0.dot p0 (Nat.le_refl _)
  have d1 := v1.dot p0 (Nat.le_refl _)
  have d2 := v2.dot p0 (Nat.le_refl _)
  let sw : P3 := (dotP (crossP (row1 (lq w)) (row2 (lq w))) (lp u), dotP (crossP (row2 (lq w)) (row0 (lq w))) (lp u), dotP (crossP (row0 (lq w)) (row1 (lq w))) (lp u))
  have vs : VP 10000000 sw := ⟨Nat.le_trans d0 (by decide), Nat.le_trans d1 (by decide), Nat.le_trans d2 (by decide)⟩
  have xd := ldot_p (p0.mono (by decide)) vs
  unfold NumOk d_law_law_numbers b_law_law_numbers
  rw [runD_ap rfl]
  simp only [dnA, List.getElem?_cons_zero, List.getElem?_cons_succ, List.set_cons_zero, List.set_cons_succ, if_true, Bool.false_eq_true, if_false, ↓reduceIte, decide_true, decide_false, decide_eq_true_eq, Option.elim_some, Option.map_some, String.reduceBEq, Bool.or_false, Bool.false_or, Bool.or_true, Bool.true_or, Bool.not_true, Bool.not_false, ne_eq, not_true_eq_false, not_false_eq_true, List.cons_append, List.nil_append, List.replicate, append_ap, cl0, Cw.s, List.map_cons, List.map_nil, e0, e1, hlast, call_v1 xr, call_v2 g0, call_v2 g1, call_v2 g2]
  rw [show [pD (crossP (row1 (lq w)) (row2 (lq w))), pD (crossP (row2 (lq w)) (row0 (lq w))), pD (crossP (row0 (lq w)) (row1 (lq w)))] = [crossP (row1 (lq w)) (row2 (lq w)), crossP (row2 (lq w)) (row0 (lq w)), crossP (row0 (lq w)) (row1 (lq w))].map pD from rfl, lcO_over _ pD (fun x => PyData.int (dotP x (lp u))) (fun _ => true), filter_all]
  rotate_left
  · intro x hx
    have hx : VP 10000000 x := by
      simp only [List.mem_cons, List.mem_nil_iff, or_false] at hx
      rcases hx with rfl | rfl | rfl
      · exact v0.mono (by decide)
      · exact v1.mono (by decide)
      · exact v2.mono (by decide)
    exact ⟨_, rfl, rfl, rfl, fun _ => by simp only [dnA, List.getElem?_cons_zero, List.getElem?_cons_succ, List.set_cons_zero, List.set_cons_succ, if_true, Bool.false_eq_true, if_false, ↓reduceIte, decide_true, decide_false, decide_eq_true_eq, Option.elim_some, Option.map_some, String.reduceBEq, Bool.or_false, Bool.false_or, Bool.or_true, Bool.true_or, Bool.not_true, Bool.not_false, ne_eq, not_true_eq_false, not_false_eq_true, List.cons_append, List.nil_append, List.replicate, append_ap, call_v2 (ldot_p hx (p0.mono (by decide)))]⟩
  · rfl
  · rfl
  · exact Nat.le_of_ble_eq_true rfl
  have esw : PyData.tuple [.int (dotP (crossP (row1 (lq w)) (row2 (lq w))) (lp u)), .int (dotP (crossP (row2 (lq w)) (row0 (lq w))) (lp u)), .int (dotP (crossP (row0 (lq w)) (row1 (lq w))) (lp u))] = pD sw := rfl
  simp only [dnA, List.getElem?_cons_zero, List.getElem?_cons_succ, List.set_cons_zero, List.set_cons_succ, if_true, Bool.false_eq_true, if_false, ↓reduceIte, decide_true, decide_false, decide_eq_true_eq, Option.elim_some, Option.map_some, String.reduceBEq, Bool.or_false, Bool.false_or, Bool.or_true, Bool.true_or, Bool.not_true, Bool.not_false, ne_eq, not_true_eq_false, not_false_eq_true, List.cons_append, List.nil_append, List.replicate, append_ap, List.map_cons, List.map_nil, esw, call_v2 xd]
  rfl
theorem numbers_ok {w : Cw} (ok : w.ok) (sl : ls.length = w.asks.length) (sh : ∀ (i : Nat) (z : Sr), w.asks[i]? = some z → ∃ t, ls[i]? = some t ∧ lsh z t) : NumOk R w args ls := by
  cases w with
  | same x => exact num_same sl sh
  | on x => exact num_on ok sl sh
  | row => exact num_turn (x := .spot) (by decide) (.inl ⟨rfl, rfl⟩) sl sh
  | bunch => exact num_turn (x := .line) (by decide) (.inr ⟨rfl, rfl⟩) sl sh
  | touch => exact num_touch sl sh
  | parted => exact num_parted sl sh
end
end Dn


/-! Dl72: the plain law of k72. -/
namespace Dn
open PySem
def spots (frees : Nat) (rs : List Rw) : Prop := frees ≤ rs.length → hasS rs .spot
theorem good_row (r : Rw) : Good 1 (rowD r) := good_tup (n := 0) fun y hy => by
  rcases List.mem_cons.mp hy with rfl | hy
  · exact good_str
  · obtain ⟨i, _, rfl⟩ := List.mem_map.mp hy
    exact good_int
theorem imm_row (r : Rw) : imm (rowD r) = true := by
  unfold rowD
  rw [imm_tup, imms_cons, imm_str, Bool.true_and]
  exact imms_all fun d hd => by
    obtain ⟨i, _, rfl⟩ := List.mem_map.mp hd
    rfl
theorem goodE_th (t : List AL) : GoodE 4 (thL t) := goodE_tup fun x hx => by
  obtain ⟨o, _, rfl⟩ := List.mem_map.mp hx
  exact goodE_sm o
theorem tfit_snoc {L : Nat} {rs : List Rw} {ts : Nm} {r : Rw} {t : List AL} (F : TFit L rs ts) (h : shp L r.1.sr t) : TFit L (rs ++ [r]) (ts ++ [t]) := by
  refine ⟨by simp [F.1], fun k r' hr => ?_⟩
  by_cases hk : k < rs.length
  · rw [List.getElem?_append_left hk] at hr
    obtain ⟨t', h1, h2⟩ := F.2 k r' hr
    exact ⟨t', by rw [List.getElem?_append_left (by rw [F.1]; exact hk)]; exact h1, h2⟩
  · rw [List.getElem?_append_right (by omega)] at hr
    have e : k - rs.length = 0 := by
      have := (List.getElem?_eq_some_iff.mp hr).1
      simp at this
      omega
    rw [e] at hr
    have : r = r' := by simpa using hr
    subst this
    exact ⟨t, by rw [List.getElem?_append_right (by rw [F.1]; omega), F.1, e]; rfl, h⟩
theorem args_mono {rs : List Rw} {r : Rw} {xs : List Sr} {args : List Int} (h : ArgsOk rs xs args) : ArgsOk (rs ++ [r]) xs args := ⟨h.1, fun i x hx => by
  obtain ⟨k, r', h1, h2, h3⟩ := h.2 i x hx
  exact ⟨k, r', h1, by rw [List.getElem?_append_left (List.getElem?_eq_some_iff.mp h2).1]; exact h2, h3⟩⟩
theorem mono_abs : ∀ (k xs : List Int), (∀ e ∈ k, 0 ≤ e ∧ e ≤ 1) → (∀ x ∈ xs, x.natAbs ≤ 3) → (mono k xs).natAbs ≤ 3 ^ k.length
  | [], _, _, _ => by simp [mono]
  | _ :: k, [], _, _ => by
    show (1 : Int).natAbs ≤ _
    exact Nat.one_le_iff_ne_zero.mpr (Nat.pos_iff_ne_zero.mp (Nat.pow_pos (by decide)))
  | e :: k, x :: xs, h1, h2 => by
    have ih := mono_abs k xs (fun y hy => h1 y (by simp [hy])) (fun y hy => h2 y (by simp [hy]))
    have he := h1 e (by simp)
    have hx := h2 x (by simp)
    show (x ^ e.toNat * mono k xs).natAbs ≤ 3 ^ (k.length + 1)
    rw [Int.natAbs_mul, Nat.pow_succ, Nat.mul_comm (3 ^ k.length)]
    refine Nat.mul_le_mul ?_ ih
    have : e = 0 ∨ e = 1 := by omega
    rcases this with rfl | rfl
    · show (x ^ 0).natAbs ≤ 3
      rw [Int.pow_zero]
      decide
    · show (x ^ 1).natAbs ≤ 3
      rw [Int.pow_succ, Int.pow_zero, Int.one_mul]
      exact hx
theorem ev_abs {L : Nat} {o : AL} (h : Pol L 1 1 40 o) {xs : List Int} (hL : L ≤ 6) (hx : ∀ x ∈ xs, x.natAbs ≤ 3) : lg (evL o xs) ≤ 1000 := by
  have main : ∀ l : AL, (∀ p ∈ l, p ∈ o) → (evL l xs).natAbs ≤ nrm l * 3 ^ 6 := by
    intro l
    induction l with
    | nil => intro _; exact Nat.zero_le _
    | cons p l ih =>
      intro hm
      have hp := hm p (by simp)
      have h1 := ih fun q hq => hm q (by simp [hq])
      have h2 := mono_abs p.1 xs (fun e he => ⟨h.nf.pos p hp e he, h.low p hp e he⟩) hx
      have h3 : 3 ^ p.1.length ≤ 3 ^ 6 := Nat.pow_le_pow_right (by decide) (by rw [h.nf.len p hp]; exact hL)
      rw [evL_cons]
      have h4 : (p.2 * mono p.1 xs).natAbs ≤ p.2.natAbs * 3 ^ 6 := by
        rw [Int.natAbs_mul]
        exact Nat.mul_le_mul_left _ (Nat.le_trans h2 h3)
      show (p.2 * mono p.1 xs + evL l xs).natAbs ≤ (p.2.natAbs + nrm l) * 3 ^ 6
      rw [Nat.add_mul]
      omega
  have := main o fun _ h => h
  have hn := h.num
  refine Nat.le_trans (lg_lt (k := 60) ?_) (by decide)
  refine Nat.lt_of_le_of_lt this ?_
  exact Nat.lt_of_le_of_lt (Nat.mul_le_mul_right _ (Nat.le_of_lt hn)) (by decide)

theorem tfit_mem {L : Nat} {rs : List Rw} {ts : Nm} (F : TFit L rs ts) : ∀ t ∈ ts, PL L 1 1 40 t := fun t ht => by
  obtain ⟨j, hj⟩ := List.getElem?_of_mem ht
  have hjl : j < rs.length := by rw [← F.1]; exact (List.getElem?_eq_some_iff.mp hj).1
  obtain ⟨t', h1, h2⟩ := F.2 j rs[j] (List.getElem?_eq_getElem hjl)
  rw [hj] at h1
  cases h1
  exact h2.2
theorem len_th (t : List AL) : lenD [thL t] = some (.int (t.length : Nat)) := by
  show some (PyData.int ((t.map smF).length : Nat)) = _
  rw [List.length_map]
theorem cut_lg {x : Int} (h : lg x ≤ 1048576) : lg (x / (10 : Int) ^ (12 : Int).toNat) ≤ 1048576 := by
  refine Nat.le_trans (lg_mono ?_) h
  generalize hd : (10 : Int) ^ (12 : Int).toNat = d
  have : d = 1000000000000 := by rw [← hd]; decide
  subst this
  omega
theorem things_ok {ns : List Int} {rs : List Rw} {L : Nat} (hc : ∀ k, lg (cellP ns k) ≤ 1048576) (hL : L ≤ 100) (hL1 : L ≠ 1) (hrs : rs.length ≤ 100) :
    ∃ ts : Nm, TFit L rs ts ∧ d_law_law_things [.list (ns.map PyData.int), rowsD rs, .int L] = .ok (thsD ts) [] := by
  generalize hsc : (PyData.list (ns.map PyData.int)) = sc
  have cell : ∀ k : Nat, d_law_law_cell [sc, .int k] = .ok (.int (cellP ns k)) [] := fun k => by rw [← hsc]; exact cell_ok ns k
  have hlr : lenD [rowsD rs] = some (.int (rs.length : Nat)) := by
    show some (PyData.int ((rs.map rowD).length : Nat)) = _
    rw [List.length_map]
  unfold d_law_law_things b_law_law_things
  rw [runD_ap rfl]
  simp only [dnA, List.getElem?_cons_zero, List.getElem?_cons_succ, List.set_cons_zero, List.set_cons_succ, if_true, Bool.false_eq_true, if_false, ↓reduceIte, decide_true, decide_false, decide_eq_true_eq, Option.elim_some, Option.map_some, String.reduceBEq, Bool.or_false, Bool.false_or, Bool.or_true, Bool.true_or, Bool.not_true, Bool.not_false, ne_eq, not_true_eq_false, not_false_eq_true, List.cons_append, List.nil_append, List.replicate, append_ap, forI_ap, hlr, range1_int (i := (rs.length : Int)) (by omega) (by omega)]
  generalize hg : forN _ _ _ _ _ _ _ = g
  obtain ⟨ρ1, rfl, ts, s4, s5, s6, F, rfl⟩ := forN_inv' hg rfl (fun k ρ => ∃ (ts : Nm) (s4 s5 s6 : Slot), TFit L (rs.take k) ts ∧
      ρ = [.val sc, .val (rowsD rs), .val (.int L), .own true (.list (ts.map thL)), s4, s5, s6, .un])
    ⟨[], _, _, _, ⟨rfl, fun k r h => by simp at h⟩, rfl⟩ (fun k d ρ hd hP => by
      obtain ⟨ts, s4, s5, s6, F, rfl⟩ := hP
      obtain ⟨rfl, hlt⟩ := rangeL_get hd
      have hk : k < rs.length := by omega
      obtain ⟨⟨w, args⟩, hrk⟩ : ∃ r, rs[k]? = some r := ⟨_, List.getElem?_eq_getElem hk⟩
      have etk : rs.take (k + 1) = rs.take k ++ [(w, args)] := by rw [List.take_add_one, hrk]; rfl
      have hlen : ts.length = k := by rw [F.1, List.length_take]; omega
      have ek0 : (0 + (k : Int)) = (k : Int) := by omega
      have ek : (3 : Int) + (k : Int) = ((3 + k : Nat) : Int) := by omega
      have hcut := cut_lg (hc (3 + k))
      generalize hz : cellP ns (3 + k) / (10 : Int) ^ (12 : Int).toNat = z at hcut
      have B := bagOk z hcut
      have hrow : at_ (rs.map rowD) (k : Int) = some (rowD (w, args)) := by
        rw [at_nat k (by simpa using hk), List.getElem?_map, hrk]
        rfl
      have hrowD : ixD (rowsD rs) (.int (k : Int)) = some (rowD (w, args)) := hrow
      have r0 : ixD (rowD (w, args)) (.int 0) = some (sS w.s) := by unfold rowD; rw [ixD_tup, at_0]
      have hcv : eqD (sS w.s) (.str (PySem.Str.ofString "curve")) = some (.bool (decide (w.sr = .curve))) := by
        cases w <;> (show eqD (.str (PySem.Str.ofString _)) (.str _) = _; rw [eqD_str, ofS_beq]; simp [Wd.s, Wd.sr])
      have hm3 : mulD (.int 3) (.int (if w.sr = Sr.curve then 1 else 0)) = some (.int (3 * (if w.sr = Sr.curve then 1 else 0))) := mulB _ _ (by decide) (by split <;> decide)
      have hmany : (3 : Int) + 3 * (if w.sr = Sr.curve then 1 else 0) = ((many w : Nat) : Int) := by
        unfold many
        split <;> rfl
      have hsort : d_law_law_sort [rowD (w, args)] = .ok (sS w.sr.s) [] := sort_ok w (args.map PyData.int)
      have d1 := draw_ok B (m := 4) (by decide) (by decide)
      have B1 := drawOk B (m := 4) (by decide)
      generalize drawR (bagA z) (bagB z) 4 = i1 at d1
      generalize drawA (bagA z) 4 = a1 at d1 B1
      generalize drawB (bagA z) (bagB z) = b1 at d1 B1
      generalize hah : (ts.filter fun t => decide (t.length = many w)) = ah
      have hahl : ah.length ≤ 100 := by
        have : ah.length ≤ ts.length := by rw [← hah]; exact List.length_filter_le _ _
        omega
      have lcs : ∀ s6' : Slot, lcB 3 (.nm 7) [7] (tst (e2 eqD (eN lenD [v 7]) (e2 addD (c (.int 3)) (e2 mulD (c (.int 3)) (eN intD [e2 eqD (e2 ixD (e2 ixD (v 1) (v 4)) (c (.int 0))) (c (.str (PySem.Str.ofString "curve")))]))))) (v 7)
          [.val sc, .val (rowsD rs), .val (.int L), .own true (.list (ts.map thL)), .val (.int k), .own true (.list [.int (bagA z), .int (bagB z)]), s6', .un] =
          .ok (.val (.list (ah.map thL))) [.val sc, .val (rowsD rs), .val (.int L), .own true (.list (ts.map thL)), .val (.int k), .own true (.list [.int (bagA z), .int (bagB z)]), s6', .un] := fun s6' => by
        rw [lcB_over ts thL thL (fun t => decide (t.length = many w)) (ρ1 := [.val sc, .val (rowsD rs), .val (.int L), .own false (.list (ts.map thL)), .val (.int k), .own true (.list [.int (bagA z), .int (bagB z)]), s6', .un]) (ρ0 := [.val sc, .val (rowsD rs), .val (.int L), .own false (.list (ts.map thL)), .val (.int k), .own true (.list [.int (bagA z), .int (bagB z)]), s6', .un]) rfl rfl rfl rfl]
        · rw [hah]
          rfl
        · intro t _
          refine ⟨_, rfl, ?_, rfl, fun _ => by simp only [dnA, List.getElem?_cons_zero, List.getElem?_cons_succ, List.set_cons_zero, List.set_cons_succ, if_true, Bool.false_eq_true, if_false, ↓reduceIte, decide_true, decide_false, decide_eq_true_eq, Option.elim_some, Option.map_some, String.reduceBEq, Bool.or_false, Bool.false_or, Bool.or_true, Bool.true_or, Bool.not_true, Bool.not_false, ne_eq, not_true_eq_false, not_false_eq_true, List.cons_append, List.nil_append, List.replicate, append_ap]⟩
          have e2 : eqD (.int (t.length : Nat)) (.int (many w : Nat)) = some (.bool (decide (t.length = many w))) := by
            rw [eqD_int]
            congr 2
            rw [decide_eq_decide]
            omega
          simp only [dnA, List.getElem?_cons_zero, List.getElem?_cons_succ, List.set_cons_zero, List.set_cons_succ, if_true, Bool.false_eq_true, if_false, ↓reduceIte, decide_true, decide_false, decide_eq_true_eq, Option.elim_some, Option.map_some, String.reduceBEq, Bool.or_false, Bool.false_or, Bool.or_true, Bool.true_or, Bool.not_true, Bool.not_false, ne_eq, not_true_eq_false, not_false_eq_true, List.cons_append, List.nil_append, List.replicate, append_ap, rowsD, len_th, hrow, r0, hcv, hm3, hmany, e2]
        · omega
      have hlah : lenD [.list (ah.map thL)] = some (.int (ah.length : Nat)) := by rw [lenD_lst, List.length_map]
      have pA : powD (.int 10) (.int 12) = some (.int ((10 : Int) ^ (12 : Int).toNat)) := powD_int (by decide)
      have pF : fdivD (.int (cellP ns (3 + k))) (.int ((10 : Int) ^ (12 : Int).toNat)) = some (.int z) := by rw [fdivD_int (by decide), hz]
      by_cases hcase : i1 = 0 ∧ 0 < ah.length
      · obtain ⟨h0, hpos⟩ := hcase
        have mp : (0 : Int) < (ah.length : Nat) := by omega
        have d2 := draw_ok B1 mp (by omega)
        have B2 := drawOk B1 mp
        obtain ⟨r2, r2'⟩ := drawR_lt (a := a1) (b := b1) mp
        generalize drawR a1 b1 (ah.length : Nat) = i2 at d2 r2 r2'
        generalize drawA a1 (ah.length : Nat) = a2 at d2 B2
        generalize drawB a1 b1 = b2 at d2 B2
        obtain ⟨j, hj, hjl⟩ : ∃ j : Nat, i2 = (j : Int) ∧ j < ah.length := ⟨i2.toNat, by omega, by omega⟩
        obtain ⟨t, htj⟩ : ∃ t, ah[j]? = some t := ⟨_, List.getElem?_eq_getElem hjl⟩
        have htm : t ∈ ts ∧ t.length = many w := by
          have := List.mem_of_getElem? htj
          rw [← hah] at this
          have := List.mem_filter.mp this
          exact ⟨this.1, of_decide_eq_true this.2⟩
        have hat : at_ (ah.map thL) i2 = some (thL t) := by
          rw [hj, at_nat j (by simpa using hjl), List.getElem?_map, htj]
          rfl
        have hap := appD_lst (x := thL t) (ds := ts.map thL) (by simp; omega)
        have eap : ts.map thL ++ [thL t] = (ts ++ [t]).map thL := by simp
        rw [eap] at hap
        refine ⟨_, rfl, [.val sc, .val (rowsD rs), .val (.int L), .own true (.list ((ts ++ [t]).map thL)), .val (.int k), .own true (.list [.int a2, .int b2]), .val (.list (ah.map thL)), .un], .inl ?_, ts ++ [t], _, _, _, etk ▸ tfit_snoc F ⟨htm.2, tfit_mem F t htm.1⟩, rfl⟩
        simp only [dnA, List.getElem?_cons_zero, List.getElem?_cons_succ, List.set_cons_zero, List.set_cons_succ, if_true, Bool.false_eq_true, if_false, ↓reduceIte, decide_true, decide_false, decide_eq_true_eq, Option.elim_some, Option.map_some, String.reduceBEq, Bool.or_false, Bool.false_or, Bool.or_true, Bool.true_or, Bool.not_true, Bool.not_false, ne_eq, not_true_eq_false, not_false_eq_true, List.cons_append, List.nil_append, List.replicate, append_ap, dcA, Option.bind_some, List.all_cons, List.all_nil, List.length_cons, List.length_nil, List.isEmpty_nil, List.isEmpty_cons, List.contains_cons, List.contains_nil, Nat.reduceBEq, Nat.reduceAdd, Nat.reduceLeDiff, Bool.and_true, Bool.true_and, ek0, ek, cell (3 + k), pA, pF, bag_ok _ hcut, lcs, d1, h0, hlah, mp, d2, hat, hap]
      · obtain ⟨a2, b2, t, B2, st, hth⟩ := thing_ok B1 hL hL1 (top := 4) (by decide) (by decide) w.sr
        have hap := appD_lst (x := thL t) (ds := ts.map thL) (by simp; omega)
        have eap : ts.map thL ++ [thL t] = (ts ++ [t]).map thL := by simp
        rw [eap] at hap
        refine ⟨_, rfl, [.val sc, .val (rowsD rs), .val (.int L), .own true (.list ((ts ++ [t]).map thL)), .val (.int k), .own true (.list [.int a2, .int b2]), .val (.list (ah.map thL)), .un], .inl ?_, ts ++ [t], _, _, _, etk ▸ tfit_snoc F st, rfl⟩
        by_cases h0 : i1 = 0
        · have hn : ¬ ((0 : Int) < (ah.length : Nat)) := fun h => hcase ⟨h0, by omega⟩
          simp only [dnA, List.getElem?_cons_zero, List.getElem?_cons_succ, List.set_cons_zero, List.set_cons_succ, if_true, Bool.false_eq_true, if_false, ↓reduceIte, decide_true, decide_false, decide_eq_true_eq, Option.elim_some, Option.map_some, String.reduceBEq, Bool.or_false, Bool.false_or, Bool.or_true, Bool.true_or, Bool.not_true, Bool.not_false, ne_eq, not_true_eq_false, not_false_eq_true, List.cons_append, List.nil_append, List.replicate, append_ap, dcA, Option.bind_some, List.all_cons, List.all_nil, List.length_cons, List.length_nil, List.isEmpty_nil, List.isEmpty_cons, List.contains_cons, List.contains_nil, Nat.reduceBEq, Nat.reduceAdd, Nat.reduceLeDiff, Bool.and_true, Bool.true_and, ek0, ek, cell (3 + k), pA, pF, bag_ok _ hcut, lcs, d1, h0, hlah, hn, hrowD, hsort, hth, hap]
        · simp only [dnA, List.getElem?_cons_zero, List.getElem?_cons_succ, List.set_cons_zero, List.set_cons_succ, if_true, Bool.false_eq_true, if_false, ↓reduceIte, decide_true, decide_false, decide_eq_true_eq, Option.elim_some, Option.map_some, String.reduceBEq, Bool.or_false, Bool.false_or, Bool.or_true, Bool.true_or, Bool.not_true, Bool.not_false, ne_eq, not_true_eq_false, not_false_eq_true, List.cons_append, List.nil_append, List.replicate, append_ap, dcA, Option.bind_some, List.all_cons, List.all_nil, List.length_cons, List.length_nil, List.isEmpty_nil, List.isEmpty_cons, List.contains_cons, List.contains_nil, Nat.reduceBEq, Nat.reduceAdd, Nat.reduceLeDiff, Bool.and_true, Bool.true_and, ek0, ek, cell (3 + k), pA, pF, bag_ok _ hcut, lcs, d1, h0, hrowD, hsort, hth, hap])
  rw [rangeL_len, show ((rs.length : Int) - 0).toNat = rs.length by omega, List.take_length] at F
  refine ⟨ts, F, ?_⟩
  simp only [dnA, List.getElem?_cons_zero, List.getElem?_cons_succ, List.set_cons_zero, List.set_cons_succ, if_true, Bool.false_eq_true, if_false, ↓reduceIte, decide_true, decide_false, decide_eq_true_eq, Option.elim_some, Option.map_some, String.reduceBEq, Bool.or_false, Bool.false_or, Bool.or_true, Bool.true_or, Bool.not_true, Bool.not_false, ne_eq, not_true_eq_false, not_false_eq_true, List.cons_append, List.nil_append, List.replicate, append_ap]
  rfl
theorem goodB (rs : List Rw) (ts : Nm) : neD (.list [rowsD rs, thsD ts]) (.list [rowsD rs, thsD ts]) = some (.bool false) := neD_selfE ((goodE_lst (n := 5) fun x hx => by
  simp at hx
  rcases hx with rfl | rfl
  · exact (goodE_lst (n := 1) fun y hy => by
      obtain ⟨r, _, rfl⟩ := List.mem_map.mp hy
      exact (good_row r).e).mono (by decide)
  · exact goodE_lst (n := 4) fun y hy => by
      obtain ⟨t, _, rfl⟩ := List.mem_map.mp hy
      exact goodE_th t).mono (by decide))
section
variable {L : Nat} {rs : List Rw} {ts : Nm} {xss : List (List Int)}
theorem atE (hL6 : L ≤ 6) {n d e : Nat} {o : AL} {xs : List Int} (h : Pol L n d e o) (hd : d ≤ 60) (he : e ≤ 1000) (hl : xs.length = L) (hx : ∀ x ∈ xs, x.natAbs ≤ 3) : d_law_law_at [smF o, iT xs] = .ok (.int (evL o xs)) [] :=
  at_ok hl (by omega) h.nf.len (fun p hp x hx' => ⟨h.nf.pos p hp x hx', by have := h.low p hp x hx'; omega⟩) (fun p hp => Nat.le_trans (h.lgs he p hp) (by decide)) (fun x hx' => Nat.le_trans (lg_lt (k := 3) (by have := hx x hx'; omega)) (by decide))
theorem arg_P {xs : List Sr} {args : List Int} (F : TFit L rs ts) (A : ArgsOk rs xs args) : ∀ i ∈ args, (((ts[i.toNat]?).getD []).length ≤ 6) ∧ PL L 1 1 40 ((ts[i.toNat]?).getD []) := fun i hi => by
  obtain ⟨nl, nsh⟩ := nm_shp F A
  obtain ⟨j, hj⟩ := List.getElem?_of_mem hi
  have hjl : j < xs.length := by rw [← A.1]; exact (List.getElem?_eq_some_iff.mp hj).1
  obtain ⟨t, h1, h2⟩ := nsh j xs[j] (List.getElem?_eq_getElem hjl)
  unfold nm at h1
  rw [List.getElem?_map, hj] at h1
  have e : (ts[i.toNat]?).getD [] = t := Option.some.inj h1
  rw [e]
  exact ⟨by rw [h2.1]; split <;> omega, h2.2⟩
theorem nm_lsh {xs0 : List Sr} {args : List Int} (hL6 : L ≤ 6) (F : TFit L rs ts) (A : ArgsOk rs xs0 args) {xs : List Int} (hx3 : ∀ x ∈ xs, x.natAbs ≤ 3) :
    ((nm ts args).map fun t => evT t xs).length = xs0.length ∧ ∀ (i : Nat) (z : Sr), xs0[i]? = some z → ∃ l, ((nm ts args).map fun t => evT t xs)[i]? = some l ∧ lsh z l := by
  obtain ⟨nl, nsh⟩ := nm_shp F A
  refine ⟨by rw [List.length_map, nl], fun i x hx => ?_⟩
  obtain ⟨t, h1, h2⟩ := nsh i x hx
  refine ⟨evT t xs, by rw [List.getElem?_map, h1]; rfl, by unfold evT; rw [List.length_map]; exact h2.1, fun y hy => ?_⟩
  obtain ⟨o, ho, rfl⟩ := List.mem_map.mp hy
  exact ev_abs (h2.2 o ho) hL6 hx3
theorem items_th (t : List AL) : items (thL t) = some (t.map smF) := rfl
theorem iT_ev (t : List AL) (xs : List Int) : PyData.tuple (t.map fun o => PyData.int (evL o xs)) = iT (evT t xs) := by
  unfold iT evT
  rw [List.map_map]
  rfl
theorem claim_good_ok {w : Cw} {args : List Int} (z : ZL L) (hL6 : L ≤ 6) (F : TFit L rs ts) (ok : w.ok) (A : ArgsOk rs w.asks args) (hxs : ∀ xs ∈ xss, xs.length = L ∧ ∀ x ∈ xs, x.natAbs ≤ 3) :
    d_law_law_claim_good [rowsD rs, thsD ts, clD w args, .int L, .list (xss.map iT)] = .ok (.bool true) [] := by
  obtain ⟨fs, hcs, hfp, hfl, hfe⟩ := csums_ok z (by omega) F ok A
  have hal : args.length ≤ 3 := by rw [A.1]; cases w <;> exact Nat.le_of_ble_eq_true rfl
  have nat_ := nm_at F A
  have argP := arg_P F A
  have hsl : sliceD (some 1) none (clD w args) = some (.tuple (args.map PyData.int)) := from1_tup
  have l1 : listD [rowsD rs] = some (rowsD rs) := rfl
  have l2 : listD [thsD ts] = some (thsD ts) := rfl
  have goods : ∀ o ∈ fs, d_law_law_sum_good [smF o, .int L] = .ok (.bool true) [] := fun o ho => good_ok (by omega) (hfp o ho)
  unfold d_law_law_claim_good b_law_law_claim_good
  rw [runD_ap rfl]
  simp only [dnA, List.getElem?_cons_zero, List.getElem?_cons_succ, List.set_cons_zero, List.set_cons_succ, if_true, Bool.false_eq_true, if_false, ↓reduceIte, decide_true, decide_false, decide_eq_true_eq, Option.elim_some, Option.map_some, String.reduceBEq, Bool.or_false, Bool.false_or, Bool.or_true, Bool.true_or, Bool.not_true, Bool.not_false, ne_eq, not_true_eq_false, not_false_eq_true, List.cons_append, List.nil_append, List.replicate, append_ap, dcA, Option.bind_some, List.all_cons, List.all_nil, List.length_cons, List.length_nil, List.isEmpty_nil, List.isEmpty_cons, List.contains_cons, List.contains_nil, Nat.reduceBEq, Nat.reduceAdd, Nat.reduceLeDiff, Bool.and_true, Bool.true_and, l1, l2, hcs, goodB]
  rw [lcO_over fs smF smF (fun _ => false)]
  rotate_left
  · exact fun o ho => ⟨_, rfl, by simp only [dnA, List.getElem?_cons_zero, List.getElem?_cons_succ, List.set_cons_zero, List.set_cons_succ, if_true, Bool.false_eq_true, if_false, ↓reduceIte, decide_true, decide_false, decide_eq_true_eq, Option.elim_some, Option.map_some, String.reduceBEq, Bool.or_false, Bool.false_or, Bool.or_true, Bool.true_or, Bool.not_true, Bool.not_false, ne_eq, not_true_eq_false, not_false_eq_true, List.cons_append, List.nil_append, List.replicate, append_ap, call_v2 (goods o ho)], rfl, fun q => (by cases q)⟩
  · rfl
  · rfl
  · omega
  rw [show fs.filter (fun _ => false) = [] from List.filter_eq_nil_iff.mpr (by simp)]
  simp only [dnA, List.getElem?_cons_zero, List.getElem?_cons_succ, List.set_cons_zero, List.set_cons_succ, if_true, Bool.false_eq_true, if_false, ↓reduceIte, decide_true, decide_false, decide_eq_true_eq, Option.elim_some, Option.map_some, String.reduceBEq, Bool.or_false, Bool.false_or, Bool.or_true, Bool.true_or, Bool.not_true, Bool.not_false, ne_eq, not_true_eq_false, not_false_eq_true, List.cons_append, List.nil_append, List.replicate, append_ap, List.map_nil, List.length_nil, show ¬ ((0 : Int) < ((0 : Nat) : Int)) by decide, forI_ap]
  generalize hg : forN _ _ _ _ _ _ _ = g
  obtain ⟨ρ1, rfl, s7, s8, rfl⟩ := forN_inv' hg rfl (fun _ ρ => ∃ s7 s8 : Slot, ρ = [.val (rowsD rs), .val (thsD ts), .val (clD w args), .val (.int L), .val (.list (xss.map iT)), .val (.list [rowsD rs, thsD ts]), .val (.list (fs.map smF)), s7, s8, .un, .un]) ⟨_, _, rfl⟩ (fun j d ρ hd hP => by
    obtain ⟨s7, s8, rfl⟩ := hP
    rw [List.getElem?_map] at hd
    cases hj : xss[j]? with
    | none => rw [hj] at hd; cases hd
    | some xs =>
      rw [hj] at hd
      cases hd
      obtain ⟨hxL, hx3⟩ := hxs xs (List.mem_of_getElem? hj)
      obtain ⟨sl, sh⟩ := nm_lsh hL6 F A hx3
      have hnum : d_law_law_numbers [rowsD rs, .list (((nm ts args).map fun t => evT t xs).map iT), clD w args] = .ok (.list ((sortG ltZ (absL (sumsP w ((nm ts args).map fun t => evT t xs)))).map PyData.int)) [] := numbers_ok ok sl sh
      rw [← hfe xs hxL] at hnum
      refine ⟨_, rfl, [.val (rowsD rs), .val (thsD ts), .val (clD w args), .val (.int L), .val (.list (xss.map iT)), .val (.list [rowsD rs, thsD ts]), .val (.list (fs.map smF)), .val (iT xs), .val (.list (((nm ts args).map fun t => evT t xs).map iT)), .un, .un], .inl ?_, _, _, rfl⟩
      simp only [dnA, List.getElem?_cons_zero, List.getElem?_cons_succ, List.set_cons_zero, List.set_cons_succ, if_true, Bool.false_eq_true, if_false, ↓reduceIte, decide_true, decide_false, decide_eq_true_eq, Option.elim_some, Option.map_some, String.reduceBEq, Bool.or_false, Bool.false_or, Bool.or_true, Bool.true_or, Bool.not_true, Bool.not_false, ne_eq, not_true_eq_false, not_false_eq_true, List.cons_append, List.nil_append, List.replicate, append_ap, hsl]
      rw [lcO_over args PyData.int (fun i => iT (evT ((ts[i.toNat]?).getD []) xs)) (fun _ => true), filter_all]
      rotate_left
      · intro i hi
        refine ⟨_, rfl, rfl, rfl, fun _ => ?_⟩
        simp only [dnA, List.getElem?_cons_zero, List.getElem?_cons_succ, List.set_cons_zero, List.set_cons_succ, if_true, Bool.false_eq_true, if_false, ↓reduceIte, decide_true, decide_false, decide_eq_true_eq, Option.elim_some, Option.map_some, String.reduceBEq, Bool.or_false, Bool.false_or, Bool.or_true, Bool.true_or, Bool.not_true, Bool.not_false, ne_eq, not_true_eq_false, not_false_eq_true, List.cons_append, List.nil_append, List.replicate, append_ap, thsD, nat_ i hi, items_th]
        rw [lcO_over ((ts[i.toNat]?).getD []) smF (fun o => PyData.int (evL o xs)) (fun _ => true), filter_all]
        rotate_left
        · exact fun o ho => ⟨_, rfl, rfl, rfl, fun _ => by simp only [dnA, List.getElem?_cons_zero, List.getElem?_cons_succ, List.set_cons_zero, List.set_cons_succ, if_true, Bool.false_eq_true, if_false, ↓reduceIte, decide_true, decide_false, decide_eq_true_eq, Option.elim_some, Option.map_some, String.reduceBEq, Bool.or_false, Bool.false_or, Bool.or_true, Bool.true_or, Bool.not_true, Bool.not_false, ne_eq, not_true_eq_false, not_false_eq_true, List.cons_append, List.nil_append, List.replicate, append_ap, call_v2 (atE hL6 ((argP i hi).2 o ho) (by decide) (by decide) hxL hx3)]⟩
        · rfl
        · rfl
        · have := (argP i hi).1; omega
        simp only [dnA, List.getElem?_cons_zero, List.getElem?_cons_succ, List.set_cons_zero, List.set_cons_succ, if_true, Bool.false_eq_true, if_false, ↓reduceIte, decide_true, decide_false, decide_eq_true_eq, Option.elim_some, Option.map_some, String.reduceBEq, Bool.or_false, Bool.false_or, Bool.or_true, Bool.true_or, Bool.not_true, Bool.not_false, ne_eq, not_true_eq_false, not_false_eq_true, List.cons_append, List.nil_append, List.replicate, append_ap, iT_ev]
      · rfl
      · rfl
      · omega
      have en : (args.map fun i => iT (evT ((ts[i.toNat]?).getD []) xs)) = ((nm ts args).map fun t => evT t xs).map iT := by
        unfold nm
        rw [List.map_map, List.map_map]
        rfl
      rw [en]
      simp only [dnA, List.getElem?_cons_zero, List.getElem?_cons_succ, List.set_cons_zero, List.set_cons_succ, if_true, Bool.false_eq_true, if_false, ↓reduceIte, decide_true, decide_false, decide_eq_true_eq, Option.elim_some, Option.map_some, String.reduceBEq, Bool.or_false, Bool.false_or, Bool.or_true, Bool.true_or, Bool.not_true, Bool.not_false, ne_eq, not_true_eq_false, not_false_eq_true, List.cons_append, List.nil_append, List.replicate, append_ap]
      rw [lcO_over fs smF (fun o => PyData.int (((evL o xs).natAbs : Nat) : Int)) (fun _ => true), filter_all]
      rotate_left
      · exact fun o ho => ⟨_, rfl, rfl, rfl, fun _ => by simp only [dnA, List.getElem?_cons_zero, List.getElem?_cons_succ, List.set_cons_zero, List.set_cons_succ, if_true, Bool.false_eq_true, if_false, ↓reduceIte, decide_true, decide_false, decide_eq_true_eq, Option.elim_some, Option.map_some, String.reduceBEq, Bool.or_false, Bool.false_or, Bool.or_true, Bool.true_or, Bool.not_true, Bool.not_false, ne_eq, not_true_eq_false, not_false_eq_true, List.cons_append, List.nil_append, List.replicate, append_ap, call_v2 (atE hL6 (hfp o ho) (by decide) (by decide) hxL hx3)]⟩
      · rfl
      · rfl
      · omega
      have ef : (fs.map fun o => PyData.int (((evL o xs).natAbs : Nat) : Int)) = (absL (evT fs xs)).map PyData.int := by
        unfold absL evT
        rw [List.map_map, List.map_map]
        rfl
      rw [ef]
      simp only [dnA, List.getElem?_cons_zero, List.getElem?_cons_succ, List.set_cons_zero, List.set_cons_succ, if_true, Bool.false_eq_true, if_false, ↓reduceIte, decide_true, decide_false, decide_eq_true_eq, Option.elim_some, Option.map_some, String.reduceBEq, Bool.or_false, Bool.false_or, Bool.or_true, Bool.true_or, Bool.not_true, Bool.not_false, ne_eq, not_true_eq_false, not_false_eq_true, List.cons_append, List.nil_append, List.replicate, append_ap, dcA, Option.bind_some, List.all_cons, List.all_nil, List.length_cons, List.length_nil, List.isEmpty_nil, List.isEmpty_cons, List.contains_cons, List.contains_nil, Nat.reduceBEq, Nat.reduceAdd, Nat.reduceLeDiff, Bool.and_true, Bool.true_and, sortZ_ints, hnum, neL_ints])
  simp only [dnA, List.getElem?_cons_zero, List.getElem?_cons_succ, List.set_cons_zero, List.set_cons_succ, if_true, Bool.false_eq_true, if_false, ↓reduceIte, decide_true, decide_false, decide_eq_true_eq, Option.elim_some, Option.map_some, String.reduceBEq, Bool.or_false, Bool.false_or, Bool.or_true, Bool.true_or, Bool.not_true, Bool.not_false, ne_eq, not_true_eq_false, not_false_eq_true, List.cons_append, List.nil_append, List.replicate, append_ap]
end
theorem law_ok (ns : List Int) (hb : ∀ z ∈ ns, lg z ≤ 1048576) : d_law_law [.list (ns.map PyData.int)] = .ok (.bool true) [] := by
  have hc : ∀ k, lg (cellP ns k) ≤ 1048576 := fun k => by
    unfold cellP
    cases e : ns[k]? with
    | none => exact Nat.zero_le _
    | some z => exact hb z (List.mem_of_getElem? e)
  unfold d_law_law b_law_law
  rw [runD_ap rfl]
  generalize hsc : (PyData.list (ns.map PyData.int)) = sc
  have cell : ∀ k : Nat, d_law_law_cell [sc, .int k] = .ok (.int (cellP ns k)) [] := fun k => by rw [← hsc]; exact cell_ok ns k
  have c0 : d_law_law_cell [sc, .int 0] = .ok (.int (cellP ns 0)) [] := cell 0
  have c1 : d_law_law_cell [sc, .int 1] = .ok (.int (cellP ns 1)) [] := cell 1
  have c2 : d_law_law_cell [sc, .int 2] = .ok (.int (cellP ns 2)) [] := cell 2
  obtain ⟨fr, hfr, fr1, fr2⟩ : ∃ fr : Nat, 1 + cellP ns 0 % 7 = (fr : Int) ∧ 1 ≤ fr ∧ fr ≤ 7 := ⟨(1 + cellP ns 0 % 7).toNat, by omega, by omega, by omega⟩
  obtain ⟨size, hsize, s1, s2⟩ : ∃ s : Nat, (if 1 + cellP ns 0 / 7 % 12 > (fr : Int) then 1 + cellP ns 0 / 7 % 12 else (fr : Int)) = (s : Int) ∧ fr ≤ s ∧ s ≤ 12 := by
    by_cases h : 1 + cellP ns 0 / 7 % 12 > (fr : Int)
    · exact ⟨(1 + cellP ns 0 / 7 % 12).toNat, by rw [if_pos h]; omega, by omega, by omega⟩
    · exact ⟨fr, by rw [if_neg h], Nat.le_refl _, by omega⟩
  obtain ⟨u, hu, hu3⟩ : ∃ u : Nat, (if (fr : Int) - 4 > 0 then (fr : Int) - 4 else 0) = (u : Int) ∧ u ≤ 3 := by
    by_cases h : (fr : Int) - 4 > 0
    · exact ⟨fr - 4, by rw [if_pos h]; omega, by omega⟩
    · exact ⟨0, by rw [if_neg h]; rfl, by omega⟩
  obtain ⟨L, hL, hL6, hL1, hL3, hL15⟩ : ∃ L : Nat, 2 * (u : Int) = (L : Int) ∧ L ≤ 6 ∧ L ≠ 1 ∧ L ≠ 3 ∧ L ≠ 15 := ⟨2 * u, by omega, by omega, by omega, by omega, by omega⟩
  have z : ZL L := .inr ⟨hL3, hL15⟩
  have m2 : mulD (.int 2) (.int (u : Nat)) = some (.int (L : Nat)) := by rw [mulB _ _ (by decide) (Nat.le_trans (lg_lt (k := 3) (by omega)) (by decide)), hL]
  have mx1 : max2D [.int (fr : Nat), .int (1 + cellP ns 0 / 7 % 12)] = some (.int (size : Nat)) := by rw [← hsize]; rfl
  have mx2 : max2D [.int 0, .int ((fr : Nat) - 4)] = some (.int (u : Nat)) := by rw [← hu]; rfl
  generalize hr2 : seq (setV 6 _) _ = rest2
  simp only [dnA, List.getElem?_cons_zero, List.getElem?_cons_succ, List.set_cons_zero, List.set_cons_succ, if_true, Bool.false_eq_true, if_false, ↓reduceIte, decide_true, decide_false, decide_eq_true_eq, Option.elim_some, Option.map_some, String.reduceBEq, Bool.or_false, Bool.false_or, Bool.or_true, Bool.true_or, Bool.not_true, Bool.not_false, ne_eq, not_true_eq_false, not_false_eq_true, List.cons_append, List.nil_append, List.replicate, append_ap, call_v2 c0, modD_int (j := 7) (by decide), hfr, fdivD_int (j := 7) (by decide), modD_int (j := 12) (by decide), mx1, mx2, m2, forI_ap, range1_int (i := (size : Int)) (by omega) (by omega)]
  generalize hg : forN _ _ _ _ _ _ _ = g
  obtain ⟨ρ1, rfl, rs, s5, hk, hsp, hargs, h5, rfl⟩ := forN_inv' hg rfl (fun k ρ => ∃ (rs : List Rw) (s5 : Slot), rs.length = k ∧ spots fr rs ∧ (∀ r ∈ rs, ArgsOk rs r.1.asks r.2) ∧ (s5 = .un ∨ ∃ d, s5 = .val d) ∧
      ρ = [.val sc, .val (.int fr), .val (.int size), .val (.int L), .own true (.list (rs.map rowD)), s5, .un, .un, .un, .un, .un, .un, .un, .un, .un])
    ⟨[], .un, rfl, fun h => by simp at h; omega, fun r h => (by cases h), .inl rfl, rfl⟩ (fun k d ρ hd hP => by
      obtain ⟨rs, s5, hk, hsp, hargs, _, rfl⟩ := hP
      obtain ⟨rfl, hlt⟩ := rangeL_get hd
      have hk24 : rs.length < 24 := by omega
      have ek0 : (0 + (k : Int)) = (k : Int) := by omega
      have ek : (3 : Int) + (k : Int) = ((3 + k : Nat) : Int) := by omega
      have B := bagOk (cellP ns (3 + k)) (hc _)
      obtain ⟨a1, b1, w, args, B1, A, hw, hr⟩ := row_ok (rs := rs) (frees := fr) (by omega) hsp (by omega) (by omega) B
      unfold rowsD at hr
      have hap := appD_lst (x := rowD (w, args)) (ds := rs.map rowD) (by simp; omega)
      have eapp : rs.map rowD ++ [rowD (w, args)] = (rs ++ [(w, args)]).map rowD := by simp
      rw [eapp] at hap
      refine ⟨_, rfl, [.val sc, .val (.int fr), .val (.int size), .val (.int L), .own true (.list ((rs ++ [(w, args)]).map rowD)), .val (.int k), .un, .un, .un, .un, .un, .un, .un, .un, .un], .inl ?_, rs ++ [(w, args)], _, by simp [hk], fun h => ?_, fun r hr' => ?_, .inr ⟨_, rfl⟩, rfl⟩
      · rw [ek0, append_ap]
        have hcall := callT_ok (ρ := [.val sc, .val (.int fr), .val (.int size), .val (.int L), .own true (.list (rs.map rowD)), .val (.int k), .un, .un, .un, .un, .un, .un, .un, .un, .un]) (ρ1 := [.val sc, .val (.int fr), .val (.int size), .val (.int L), .own true (.list (rs.map rowD)), .val (.int k), .un, .un, .un, .un, .un, .un, .un, .un, .un]) (m := callM d_law_law_bag [false] true [callM d_law_law_cell [false, false] false [v 0, e2 addD (c (.int 3)) (v 5)]]) (ms := [Dn.b 4, v 1]) (i := 4) (k := true) (x := .int fr) (by simp only [dnA, List.getElem?_cons_zero, List.getElem?_cons_succ, List.set_cons_zero, List.set_cons_succ, if_true, Bool.false_eq_true, if_false, ↓reduceIte, decide_true, decide_false, decide_eq_true_eq, Option.elim_some, Option.map_some, String.reduceBEq, Bool.or_false, Bool.false_or, Bool.or_true, Bool.true_or, Bool.not_true, Bool.not_false, ne_eq, not_true_eq_false, not_false_eq_true, List.cons_append, List.nil_append, List.replicate, append_ap, ek, call_v2 (cell (3 + k)), call_v1 (bag_ok _ (hc _))]) (by simp only [dnA, List.getElem?_cons_zero, List.getElem?_cons_succ, List.set_cons_zero, List.set_cons_succ, if_true, Bool.false_eq_true, if_false, ↓reduceIte, decide_true, decide_false, decide_eq_true_eq, Option.elim_some, Option.map_some, String.reduceBEq, Bool.or_false, Bool.false_or, Bool.or_true, Bool.true_or, Bool.not_true, Bool.not_false, ne_eq, not_true_eq_false, not_false_eq_true, List.cons_append, List.nil_append, List.replicate, append_ap]) rfl hr (imm_row _) (by rfl)
        simp only [dnA, List.getElem?_cons_zero, List.getElem?_cons_succ, List.set_cons_zero, List.set_cons_succ, if_true, Bool.false_eq_true, if_false, ↓reduceIte, decide_true, decide_false, decide_eq_true_eq, Option.elim_some, Option.map_some, String.reduceBEq, Bool.or_false, Bool.false_or, Bool.or_true, Bool.true_or, Bool.not_true, Bool.not_false, ne_eq, not_true_eq_false, not_false_eq_true, List.cons_append, List.nil_append, List.replicate, append_ap, hcall, hap]
      · by_cases h2 : rs.length < fr
        · exact ⟨(w, args), by simp, by rw [hw.mp h2]; rfl⟩
        · obtain ⟨r, h3, h4⟩ := hsp (by omega)
          exact ⟨r, by simp [h3], h4⟩
      · rcases List.mem_append.mp hr' with h | h
        · exact args_mono (hargs r h)
        · simp at h
          subst h
          exact args_mono A)
  rw [rangeL_len] at hk
  have hk : rs.length = size := by omega
  obtain ⟨ts, F, hth⟩ := things_ok (ns := ns) (rs := rs) (L := L) hc (by omega) hL1 (by omega)
  rw [hsc] at hth
  unfold rowsD thsD at hth
  rw [← hr2]
  simp only [dnA, List.getElem?_cons_zero, List.getElem?_cons_succ, List.set_cons_zero, List.set_cons_succ, if_true, Bool.false_eq_true, if_false, ↓reduceIte, decide_true, decide_false, decide_eq_true_eq, Option.elim_some, Option.map_some, String.reduceBEq, Bool.or_false, Bool.false_or, Bool.or_true, Bool.true_or, Bool.not_true, Bool.not_false, ne_eq, not_true_eq_false, not_false_eq_true, List.cons_append, List.nil_append, List.replicate, append_ap, dcA, Option.bind_some, List.all_cons, List.all_nil, List.length_cons, List.length_nil, List.isEmpty_nil, List.isEmpty_cons, List.contains_cons, List.contains_nil, Nat.reduceBEq, Nat.reduceAdd, Nat.reduceLeDiff, Bool.and_true, Bool.true_and, hth, cell 2, c2, bag_ok _ (hc 2), range1_int (i := 3) (by decide) (by decide)]
  let R : Int → Int → Slot → Env := fun a b s9 => [.val sc, .val (.int fr), .val (.int size), .val (.int L), .val (.list (rs.map rowD)), s5, .val (.list (ts.map thL)), .own true (.list [.int a, .int b]), .un, s9, .un, .un, .un, .un, .un]
  have inner : ∀ (a b : Int) (s9 : Slot), BagOk a b → ∃ (a' b' : Int) (xs : List Int), BagOk a' b' ∧ xs.length = L ∧ (∀ x ∈ xs, x.natAbs ≤ 3) ∧
      lcO (ofL (rangeL 0 (L : Int))) always (.nm 5) [5] yes (e2 subD (callM d_law_law_draw [true, false] false [Dn.b 7, c (.int 7)]) (c (.int 3))) (rangeL 0 (L : Int)).length (R a b s9) = .ok (.val (.list (xs.map PyData.int))) (R a' b' s9) := by
    intro a b s9 B
    let R' : Int → Int → Env := fun a b => [.val sc, .val (.int fr), .val (.int size), .val (.int L), .val (.list (rs.map rowD)), .un, .val (.list (ts.map thL)), .own true (.list [.int a, .int b]), .un, s9, .un, .un, .un, .un, .un]
    obtain ⟨out, ρ', h1, a', b', xs, B', hxl, hxs, hout, rfl⟩ := lcO_st (ds := rangeL 0 (L : Int)) (t := .nm 5) (js := [5]) (ts := yes) (el := e2 subD (callM d_law_law_draw [true, false] false [Dn.b 7, c (.int 7)]) (c (.int 3))) (ρ := R a b s9)
      (fun k acc ρ => ∃ (a b : Int) (xs : List Int), BagOk a b ∧ xs.length = k ∧ (∀ x ∈ xs, x.natAbs ≤ 3) ∧ acc = xs.map PyData.int ∧ ρ = R' a b)
      (by rw [rangeL_len]; omega) ⟨a, b, [], B, rfl, fun e he => (by cases he), rfl, rfl⟩ (fun k d acc ρ hd hP => by
        obtain ⟨a, b, xs, B, hxl, hxs, rfl, rfl⟩ := hP
        have d1 := draw_ok B (m := 7) (by decide) (by decide)
        have B1 := drawOk B (m := 7) (by decide)
        obtain ⟨r1, r2⟩ := drawR_lt (a := a) (b := b) (m := 7) (by decide)
        generalize drawR a b 7 = x at d1 r1 r2
        refine ⟨_, .int (x - 3), _, rfl, rfl, by simp only [dnA, List.getElem?_cons_zero, List.getElem?_cons_succ, List.set_cons_zero, List.set_cons_succ, if_true, Bool.false_eq_true, if_false, ↓reduceIte, decide_true, decide_false, decide_eq_true_eq, Option.elim_some, Option.map_some, String.reduceBEq, Bool.or_false, Bool.false_or, Bool.or_true, Bool.true_or, Bool.not_true, Bool.not_false, ne_eq, not_true_eq_false, not_false_eq_true, List.cons_append, List.nil_append, List.replicate, append_ap, dcA, Option.bind_some, List.all_cons, List.all_nil, List.length_cons, List.length_nil, List.isEmpty_nil, List.isEmpty_cons, List.contains_cons, List.contains_nil, Nat.reduceBEq, Nat.reduceAdd, Nat.reduceLeDiff, Bool.and_true, Bool.true_and, R', d1]; rfl, _, _, xs ++ [x - 3], B1, by simp [hxl], fun e he => ?_, by simp, rfl⟩
        rcases List.mem_append.mp he with h | h
        · exact hxs e h
        · simp at h
          omega)
    rw [rangeL_len] at hxl
    rw [hout] at h1
    refine ⟨a', b', xs, B', by omega, hxs, h1.trans ?_⟩
    rcases h5 with rfl | ⟨d, rfl⟩ <;> rfl
  obtain ⟨out, ρ', h1, a', b', xss, B', hxl, hxs, hout, rfl⟩ := lcO_st (ds := rangeL 0 3) (t := .nm 9) (js := [9]) (ts := yes) (el := eN tupleD [lcI (rangeM range1 [v 3]) (.nm 5) [5] (yes) (e2 subD (callM d_law_law_draw [true, false] false [Dn.b 7, c (.int 7)]) (c (.int 3)))]) (ρ := R (bagA (cellP ns 2)) (bagB (cellP ns 2)) .un)
    (fun k acc ρ => ∃ (a b : Int) (xss : List (List Int)), BagOk a b ∧ xss.length = k ∧ (∀ xs ∈ xss, xs.length = L ∧ ∀ x ∈ xs, x.natAbs ≤ 3) ∧ acc = xss.map iT ∧ ρ = R a b .un)
    (by decide) ⟨_, _, [], bagOk _ (hc 2), rfl, fun e he => (by cases he), rfl, rfl⟩ (fun k d acc ρ hd hP => by
      obtain ⟨a, b, xss, B, hxl, hxs, rfl, rfl⟩ := hP
      obtain ⟨a', b', xs, B', hl, hx, he⟩ := inner a b (.val d) B
      refine ⟨_, iT xs, R a' b' (.val d), rfl, rfl, ?_, a', b', xss ++ [xs], B', by simp [hxl], fun e hee => ?_, by simp, rfl⟩
      · show (eN tupleD [lcI (rangeM range1 [v 3]) (.nm 5) [5] (yes) (e2 subD (callM d_law_law_draw [true, false] false [Dn.b 7, c (.int 7)]) (c (.int 3)))]) (R a b (.val d)) = _
        have hv3 : (R a b (.val d))[3]? = some (.val (.int L)) := rfl
        simp only [dnA, List.getElem?_cons_zero, List.getElem?_cons_succ, List.set_cons_zero, List.set_cons_succ, if_true, Bool.false_eq_true, if_false, ↓reduceIte, decide_true, decide_false, decide_eq_true_eq, Option.elim_some, Option.map_some, String.reduceBEq, Bool.or_false, Bool.false_or, Bool.or_true, Bool.true_or, Bool.not_true, Bool.not_false, ne_eq, not_true_eq_false, not_false_eq_true, List.cons_append, List.nil_append, List.replicate, append_ap, hv3, range1_int (i := (L : Int)) (by omega) (by omega)]
        rw [he]
        simp only [dnA, List.getElem?_cons_zero, List.getElem?_cons_succ, List.set_cons_zero, List.set_cons_succ, if_true, Bool.false_eq_true, if_false, ↓reduceIte, decide_true, decide_false, decide_eq_true_eq, Option.elim_some, Option.map_some, String.reduceBEq, Bool.or_false, Bool.false_or, Bool.or_true, Bool.true_or, Bool.not_true, Bool.not_false, ne_eq, not_true_eq_false, not_false_eq_true, List.cons_append, List.nil_append, List.replicate, append_ap]
        rfl
      · rcases List.mem_append.mp hee with h | h
        · exact hxs e h
        · simp at h
          subst h
          exact ⟨hl, hx⟩)
  rw [hout] at h1
  rw [h1]
  have hb9 : backD (R (bagA (cellP ns 2)) (bagB (cellP ns 2)) .un) (R a' b' .un) [9] = R a' b' .un := rfl
  rw [hb9]
  generalize hr3 : seq (setO 7 _) _ = rest3
  simp only [dnA, List.getElem?_cons_zero, List.getElem?_cons_succ, List.set_cons_zero, List.set_cons_succ, if_true, Bool.false_eq_true, if_false, ↓reduceIte, decide_true, decide_false, decide_eq_true_eq, Option.elim_some, Option.map_some, String.reduceBEq, Bool.or_false, Bool.false_or, Bool.or_true, Bool.true_or, Bool.not_true, Bool.not_false, ne_eq, not_true_eq_false, not_false_eq_true, List.cons_append, List.nil_append, List.replicate, append_ap, R, forI_ap, range1_int (i := (size : Int)) (by omega) (by omega)]
  generalize hg2 : forN _ _ _ _ _ _ _ = g2
  obtain ⟨ρ2, rfl, t5, t10, t11, t12, rfl⟩ := forN_inv' hg2 rfl (fun _ ρ => ∃ (t5 t10 t11 t12 : Slot), ρ = [.val sc, .val (.int fr), .val (.int size), .val (.int L), .val (.list (rs.map rowD)), t5, .val (.list (ts.map thL)), .own true (.list [.int a', .int b']), .val (.list (xss.map iT)), .un, t10, t11, t12, .un, .un])
    ⟨_, _, _, _, rfl⟩ (fun k d ρ hd hP => by
      obtain ⟨t5, t10, t11, t12, rfl⟩ := hP
      obtain ⟨rfl, hlt⟩ := rangeL_get hd
      have ek0 : (0 + (k : Int)) = (k : Int) := by omega
      rw [ek0]
      have hks : k < rs.length := by omega
      obtain ⟨⟨w, args⟩, hrk⟩ : ∃ r, rs[k]? = some r := ⟨_, List.getElem?_eq_getElem hks⟩
      have A : ArgsOk rs w.asks args := hargs (w, args) (List.mem_of_getElem? hrk)
      have hrow : at_ (rs.map rowD) (k : Int) = some (rowD (w, args)) := by
        rw [at_nat k (by simpa using hks), List.getElem?_map, hrk]
        rfl
      have r0 : ixD (rowD (w, args)) (.int 0) = some (sS w.s) := by unfold rowD; rw [ixD_tup, at_0]
      have hcv : eqD (sS w.s) (.str (PySem.Str.ofString "other")) = some (.bool (w.s == "other")) := by
        show eqD (.str (PySem.Str.ofString _)) (.str _) = _
        rw [eqD_str, ofS_beq]
      refine ⟨_, rfl, ?_⟩
      by_cases hwo : (w.s == "other") = true
      · have hw : w = .other := by cases w <;> first | rfl | exact absurd hwo (by decide)
        subst hw
        obtain ⟨o, htie, hop, hoe⟩ := tie_ok z (by omega : L ≤ 100) F hrk A
        unfold rowsD thsD at htie
        have hgood := good_ok (by omega : L ≤ 1000) hop
        have l1 : listD [.list (rs.map rowD)] = some (.list (rs.map rowD)) := rfl
        have nat_ := nm_at F A
        have argP := arg_P F A
        have hal : args.length ≤ 3 := by rw [A.1]; exact Nat.le_refl _
        have hsl : sliceD (some 1) none (rowD (.other, args)) = some (.tuple (args.map PyData.int)) := from1_tup
        simp only [dnA, List.getElem?_cons_zero, List.getElem?_cons_succ, List.set_cons_zero, List.set_cons_succ, if_true, Bool.false_eq_true, if_false, ↓reduceIte, decide_true, decide_false, decide_eq_true_eq, Option.elim_some, Option.map_some, String.reduceBEq, Bool.or_false, Bool.false_or, Bool.or_true, Bool.true_or, Bool.not_true, Bool.not_false, ne_eq, not_true_eq_false, not_false_eq_true, List.cons_append, List.nil_append, List.replicate, append_ap, hrow, r0, hcv, hwo]
        simp only [dnA, List.getElem?_cons_zero, List.getElem?_cons_succ, List.set_cons_zero, List.set_cons_succ, if_true, Bool.false_eq_true, if_false, ↓reduceIte, decide_true, decide_false, decide_eq_true_eq, Option.elim_some, Option.map_some, String.reduceBEq, Bool.or_false, Bool.false_or, Bool.or_true, Bool.true_or, Bool.not_true, Bool.not_false, ne_eq, not_true_eq_false, not_false_eq_true, List.cons_append, List.nil_append, List.replicate, append_ap, dcA, Option.bind_some, List.all_cons, List.all_nil, List.length_cons, List.length_nil, List.isEmpty_nil, List.isEmpty_cons, List.contains_cons, List.contains_nil, Nat.reduceBEq, Nat.reduceAdd, Nat.reduceLeDiff, Bool.and_true, Bool.true_and, l1, htie, hgood, forI_ap]
        generalize hg3 : forN _ _ _ _ _ _ _ = g3
        obtain ⟨ρ3, rfl, u11, u12, rfl⟩ := forN_inv' hg3 rfl (fun _ ρ => ∃ (u11 u12 : Slot), ρ = [.val sc, .val (.int fr), .val (.int size), .val (.int L), .val (.list (rs.map rowD)), .val (.int k), .val (.list (ts.map thL)), .own true (.list [.int a', .int b']), .val (.list (xss.map iT)), .un, .val (smF o), u11, u12, .un, .un]) ⟨_, _, rfl⟩ (fun j d ρ hd hP => by
          obtain ⟨u11, u12, rfl⟩ := hP
          rw [List.getElem?_map] at hd
          cases hj : xss[j]? with
          | none => rw [hj] at hd; cases hd
          | some xs =>
            rw [hj] at hd
            cases hd
            obtain ⟨hxL, hx3⟩ := hxs xs (List.mem_of_getElem? hj)
            obtain ⟨sl, sh⟩ := nm_lsh hL6 F A hx3
            obtain ⟨l0, g0, b0⟩ := sh 0 .curve rfl
            obtain ⟨l1, g1, b1⟩ := sh 1 .spot rfl
            obtain ⟨q, p, hq, hp, hev⟩ := hoe xs hxL
            obtain ⟨e0, p0⟩ := lsh6 b0
            obtain ⟨e1, p1⟩ := lsh3 b1 (by decide)
            have hql : q = l0 := by
              rw [List.getElem?_map] at g0
              rw [hq] at g0
              exact Option.some.inj g0
            have hpl : p = l1 := by
              rw [List.getElem?_map] at g1
              rw [hp] at g1
              exact Option.some.inj g1
            subst hql hpl
            have xt := ltimes_p (p0.mono (by decide)) (p1.mono (by decide))
            have xd := ldot_p (p1.mono (by decide)) ((p0.times p1).mono (by decide))
            rw [← hev] at xd
            have iat0 : at_ (((nm ts args).map fun t => evT t xs).map iT) 0 = some (qD (lq q)) := by
              rw [show (0 : Int) = ((0 : Nat) : Int) from rfl, at_nat 0 (by rw [List.length_map, sl]; decide), List.getElem?_map, g0, ← e0]
              rfl
            have iat1 : at_ (((nm ts args).map fun t => evT t xs).map iT) 1 = some (pD (lp p)) := by
              rw [show (1 : Int) = ((1 : Nat) : Int) from rfl, at_nat 1 (by rw [List.length_map, sl]; decide), List.getElem?_map, g1, ← e1]
              rfl
            refine ⟨_, rfl, [.val sc, .val (.int fr), .val (.int size), .val (.int L), .val (.list (rs.map rowD)), .val (.int k), .val (.list (ts.map thL)), .own true (.list [.int a', .int b']), .val (.list (xss.map iT)), .un, .val (smF o), .val (iT xs), .val (.list (((nm ts args).map fun t => evT t xs).map iT)), .un, .un], .inl ?_, _, _, rfl⟩
            simp only [dnA, List.getElem?_cons_zero, List.getElem?_cons_succ, List.set_cons_zero, List.set_cons_succ, if_true, Bool.false_eq_true, if_false, ↓reduceIte, decide_true, decide_false, decide_eq_true_eq, Option.elim_some, Option.map_some, String.reduceBEq, Bool.or_false, Bool.false_or, Bool.or_true, Bool.true_or, Bool.not_true, Bool.not_false, ne_eq, not_true_eq_false, not_false_eq_true, List.cons_append, List.nil_append, List.replicate, append_ap, hrow, hsl]
            rw [lcO_over args PyData.int (fun i => iT (evT ((ts[i.toNat]?).getD []) xs)) (fun _ => true), filter_all]
            rotate_left
            · intro i hi
              refine ⟨_, rfl, rfl, rfl, fun _ => ?_⟩
              simp only [dnA, List.getElem?_cons_zero, List.getElem?_cons_succ, List.set_cons_zero, List.set_cons_succ, if_true, Bool.false_eq_true, if_false, ↓reduceIte, decide_true, decide_false, decide_eq_true_eq, Option.elim_some, Option.map_some, String.reduceBEq, Bool.or_false, Bool.false_or, Bool.or_true, Bool.true_or, Bool.not_true, Bool.not_false, ne_eq, not_true_eq_false, not_false_eq_true, List.cons_append, List.nil_append, List.replicate, append_ap, nat_ i hi, items_th]
              rw [lcO_over ((ts[i.toNat]?).getD []) smF (fun o => PyData.int (evL o xs)) (fun _ => true), filter_all]
              rotate_left
              · exact fun o ho => ⟨_, rfl, rfl, rfl, fun _ => by simp only [dnA, List.getElem?_cons_zero, List.getElem?_cons_succ, List.set_cons_zero, List.set_cons_succ, if_true, Bool.false_eq_true, if_false, ↓reduceIte, decide_true, decide_false, decide_eq_true_eq, Option.elim_some, Option.map_some, String.reduceBEq, Bool.or_false, Bool.false_or, Bool.or_true, Bool.true_or, Bool.not_true, Bool.not_false, ne_eq, not_true_eq_false, not_false_eq_true, List.cons_append, List.nil_append, List.replicate, append_ap, call_v2 (atE hL6 ((argP i hi).2 o ho) (by decide) (by decide) hxL hx3)]⟩
              · rfl
              · rfl
              · have := (argP i hi).1; omega
              simp only [dnA, List.getElem?_cons_zero, List.getElem?_cons_succ, List.set_cons_zero, List.set_cons_succ, if_true, Bool.false_eq_true, if_false, ↓reduceIte, decide_true, decide_false, decide_eq_true_eq, Option.elim_some, Option.map_some, String.reduceBEq, Bool.or_false, Bool.false_or, Bool.or_true, Bool.true_or, Bool.not_true, Bool.not_false, ne_eq, not_true_eq_false, not_false_eq_true, List.cons_append, List.nil_append, List.replicate, append_ap, iT_ev]
            · rfl
            · rfl
            · omega
            have en : (args.map fun i => iT (evT ((ts[i.toNat]?).getD []) xs)) = ((nm ts args).map fun t => evT t xs).map iT := by
              unfold nm
              rw [List.map_map, List.map_map]
              rfl
            rw [en]
            simp only [dnA, List.getElem?_cons_zero, List.getElem?_cons_succ, List.set_cons_zero, List.set_cons_succ, if_true, Bool.false_eq_true, if_false, ↓reduceIte, decide_true, decide_false, decide_eq_true_eq, Option.elim_some, Option.map_some, String.reduceBEq, Bool.or_false, Bool.false_or, Bool.or_true, Bool.true_or, Bool.not_true, Bool.not_false, ne_eq, not_true_eq_false, not_false_eq_true, List.cons_append, List.nil_append, List.replicate, append_ap, call_v2 (atE hL6 hop (by decide) (by decide) hxL hx3), iat0, iat1, call_v2 xt, call_v2 xd])
        exact ⟨_, .inl rfl, _, _, _, _, rfl⟩
      · refine ⟨[.val sc, .val (.int fr), .val (.int size), .val (.int L), .val (.list (rs.map rowD)), .val (.int k), .val (.list (ts.map thL)), .own true (.list [.int a', .int b']), .val (.list (xss.map iT)), .un, t10, t11, t12, .un, .un], .inl ?_, _, _, _, _, rfl⟩
        have hwf : (w.s == "other") = false := by simpa using hwo
        simp only [dnA, List.getElem?_cons_zero, List.getElem?_cons_succ, List.set_cons_zero, List.set_cons_succ, if_true, Bool.false_eq_true, if_false, ↓reduceIte, decide_true, decide_false, decide_eq_true_eq, Option.elim_some, Option.map_some, String.reduceBEq, Bool.or_false, Bool.false_or, Bool.or_true, Bool.true_or, Bool.not_true, Bool.not_false, ne_eq, not_true_eq_false, not_false_eq_true, List.cons_append, List.nil_append, List.replicate, append_ap, hrow, r0, hcv, hwf])
  rw [← hr3]
  simp only [dnA, List.getElem?_cons_zero, List.getElem?_cons_succ, List.set_cons_zero, List.set_cons_succ, if_true, Bool.false_eq_true, if_false, ↓reduceIte, decide_true, decide_false, decide_eq_true_eq, Option.elim_some, Option.map_some, String.reduceBEq, Bool.or_false, Bool.false_or, Bool.or_true, Bool.true_or, Bool.not_true, Bool.not_false, ne_eq, not_true_eq_false, not_false_eq_true, List.cons_append, List.nil_append, List.replicate, append_ap, dcA, Option.bind_some, List.all_cons, List.all_nil, List.length_cons, List.length_nil, List.isEmpty_nil, List.isEmpty_cons, List.contains_cons, List.contains_nil, Nat.reduceBEq, Nat.reduceAdd, Nat.reduceLeDiff, Bool.and_true, Bool.true_and, c1, bag_ok _ (hc 1), forI_ap, range1_int (i := 6) (by decide) (by decide)]
  generalize hg4 : forN _ _ _ _ _ _ _ = g4
  obtain ⟨ρ4, rfl, a4, b4, v9, B4, rfl⟩ := forN_inv' hg4 rfl (fun _ ρ => ∃ (a b : Int) (v9 : Slot), BagOk a b ∧ ρ = [.val sc, .val (.int fr), .val (.int size), .val (.int L), .val (.list (rs.map rowD)), t5, .val (.list (ts.map thL)), .own true (.list [.int a, .int b]), .val (.list (xss.map iT)), v9, t10, t11, t12, .un, .un])
    ⟨_, _, _, bagOk _ (hc 1), rfl⟩ (fun k d ρ hd hP => by
      obtain ⟨a, b, v9, B, rfl⟩ := hP
      obtain ⟨a', b', w, args, B', ok, A, hcl⟩ := claim_ok (rs := rs) (by omega) (by omega) B
      have hg := claim_good_ok z hL6 F ok A hxs
      unfold rowsD at hcl hg
      unfold thsD at hg
      refine ⟨_, rfl, [.val sc, .val (.int fr), .val (.int size), .val (.int L), .val (.list (rs.map rowD)), t5, .val (.list (ts.map thL)), .own true (.list [.int a', .int b']), .val (.list (xss.map iT)), .val d, t10, t11, t12, .un, .un], .inl ?_, _, _, _, B', rfl⟩
      simp only [dnA, List.getElem?_cons_zero, List.getElem?_cons_succ, List.set_cons_zero, List.set_cons_succ, if_true, Bool.false_eq_true, if_false, ↓reduceIte, decide_true, decide_false, decide_eq_true_eq, Option.elim_some, Option.map_some, String.reduceBEq, Bool.or_false, Bool.false_or, Bool.or_true, Bool.true_or, Bool.not_true, Bool.not_false, ne_eq, not_true_eq_false, not_false_eq_true, List.cons_append, List.nil_append, List.replicate, append_ap, dcA, Option.bind_some, List.all_cons, List.all_nil, List.length_cons, List.length_nil, List.isEmpty_nil, List.isEmpty_cons, List.contains_cons, List.contains_nil, Nat.reduceBEq, Nat.reduceAdd, Nat.reduceLeDiff, Bool.and_true, Bool.true_and, hcl, hg])
  simp only [dnA, List.getElem?_cons_zero, List.getElem?_cons_succ, List.set_cons_zero, List.set_cons_succ, if_true, Bool.false_eq_true, if_false, ↓reduceIte, decide_true, decide_false, decide_eq_true_eq, Option.elim_some, Option.map_some, String.reduceBEq, Bool.or_false, Bool.false_or, Bool.or_true, Bool.true_or, Bool.not_true, Bool.not_false, ne_eq, not_true_eq_false, not_false_eq_true, List.cons_append, List.nil_append, List.replicate, append_ap]
end Dn
namespace L72
open Dn PySem
theorem plain (ns : List Int) (hl : ns.length ≤ 63) (hb : ∀ z ∈ ns, Builtin.Int.intBits z ≤ 1048576) : d_law_law [.list (ns.map PyData.int)] = .ok (.bool true) [] := law_ok ns fun z hz => lg_bits (hb z hz)
end L72


namespace L72
open PySem PySem.Spec PyProof.Rows L2 Dn
abbrev cK (K : PySem.W.Frag) : Kc := ⟨K, fun d => (tkey zLaw d).isNone, fun _ => none⟩
theorem all_mk {l : PySem.W.OpenLaw} {w : World} {K : PySem.W.Frag} {h : Heap} {mg : Str → Option Value} {fa : Addr} (X : K.In h) (G : h.Ns mainGlobals mg) (hfa : mg "law" = some (.ref fa))
    {tk1 : Tok}
    {q2 : Addr} {e2 : Option Addr} {n2 : Nat} {r2 : Array (Option Value)}
    {tk3 : Tok}
    {tk4 : Tok}
    {tk5 : Tok}
    {q6 : Addr} {e6 : Option Addr} {n6 : Nat} {r6 : Array (Option Value)}
    {tk7 : Tok}
    {tk8 : Tok}
    {tk9 : Tok}
    {q10 : Addr} {e10 : Option Addr} {n10 : Nat} {r10 : Array (Option Value)}
    {tk11 : Tok}
    {tk12 : Tok}
    {tk13 : Tok}
    {tk14 : Tok}
    {tk15 : Tok}
    {tk16 : Tok}
    {q17 : Addr} {e17 : Option Addr} {n17 : Nat} {r17 : Array (Option Value)}
    {tk18 : Tok}
    {tk19 : Tok}
    {tk20 : Tok}
    {q21 : Addr} {e21 : Option Addr} {n21 : Nat} {r21 : Array (Option Value)}
    {tk22 : Tok}
    {tk23 : Tok}
    {tk24 : Tok}
    {q25 : Addr} {e25 : Option Addr} {n25 : Nat} {r25 : Array (Option Value)}
    {tk26 : Tok}
    {tk27 : Tok}
    {tk28 : Tok}
    {tk29 : Tok}
    {q30 : Addr} {e30 : Option Addr} {n30 : Nat} {r30 : Array (Option Value)}
    {q31 : Addr} {n31 : Nat} {u31_0 u31_1 u31_2 u31_3 u31_4 u31_5 u31_6 : Tok}
    {tk32 : Tok}
    {tk33 : Tok}
    {tk34 : Tok}
    {tk35 : Tok}
    {tk36 : Tok}
    {tk37 : Tok}
    {tk38 : Tok}
    {tk39 : Tok}
    {tk40 : Tok}
    {tk41 : Tok}
    {tk42 : Tok}
    {tk43 : Tok}
    {tk44 : Tok}
    {tk45 : Tok}
    {tk46 : Tok}
    {tk47 : Tok}
    {tk48 : Tok}
    {tk49 : Tok}
    {q50 : Addr} {e50 : Option Addr} {n50 : Nat} {r50 : Array (Option Value)}
    {tk51 : Tok}
    {tk52 : Tok}
    {tk53 : Tok}
    {tk54 : Tok}
    {tk55 : Tok}
    {tk56 : Tok}
    {tk57 : Tok}
    {tk58 : Tok}
    {tk59 : Tok}
    {tk60 : Tok}
    {tk61 : Tok}
    {tk62 : Tok}
    {tk63 : Tok}
    {tk64 : Tok}
    {tk65 : Tok}
    {q66 : Addr} {e66 : Option Addr} {n66 : Nat} {r66 : Array (Option Value)}
    {f29 : Addr} {od29 an29 : Option Addr} {sl29 : Array (Option Value)} {oc29 kV29 dc29 pm29 cd29 ct29 : Value}
    {f28 : Addr} {od28 an28 : Option Addr} {sl28 : Array (Option Value)} {oc28 kV28 dc28 pm28 cd28 ct28 : Value}
    {f30 : Addr} {od30 an30 : Option Addr} {sl30 : Array (Option Value)} {oc30 kV30 dc30 pm30 cd30 ct30 : Value}
    {f42 : Addr} {od42 an42 : Option Addr} {sl42 : Array (Option Value)} {oc42 kV42 dc42 pm42 cd42 ct42 : Value}
    {f43 : Addr} {od43 an43 : Option Addr} {sl43 : Array (Option Value)} {oc43 kV43 dc43 pm43 cd43 ct43 : Value}
    {f32 : Addr} {od32 an32 : Option Addr} {sl32 : Array (Option Value)} {oc32 kV32 dc32 pm32 cd32 ct32 : Value}
    {f46 : Addr} {od46 an46 : Option Addr} {sl46 : Array (Option Value)} {oc46 kV46 dc46 pm46 cd46 ct46 : Value}
    {f31 : Addr} {od31 an31 : Option Addr} {sl31 : Array (Option Value)} {oc31 kV31 dc31 pm31 cd31 ct31 : Value}
    {f33 : Addr} {od33 an33 : Option Addr} {sl33 : Array (Option Value)} {oc33 kV33 dc33 pm33 cd33 ct33 : Value}
    {f34 : Addr} {od34 an34 : Option Addr} {sl34 : Array (Option Value)} {oc34 kV34 dc34 pm34 cd34 ct34 : Value}
    {f10 : Addr} {od10 an10 : Option Addr} {sl10 : Array (Option Value)} {oc10 kV10 dc10 pm10 cd10 ct10 : Value}
    {f11 : Addr} {od11 an11 : Option Addr} {sl11 : Array (Option Value)} {oc11 kV11 dc11 pm11 cd11 ct11 : Value}
    {f14 : Addr} {od14 an14 : Option Addr} {sl14 : Array (Option Value)} {oc14 kV14 dc14 pm14 cd14 ct14 : Value}
    {f15 : Addr} {od15 an15 : Option Addr} {sl15 : Array (Option Value)} {oc15 kV15 dc15 pm15 cd15 ct15 : Value}
    {f16 : Addr} {od16 an16 : Option Addr} {sl16 : Array (Option Value)} {oc16 kV16 dc16 pm16 cd16 ct16 : Value}
    {f19 : Addr} {od19 an19 : Option Addr} {sl19 : Array (Option Value)} {oc19 kV19 dc19 pm19 cd19 ct19 : Value}
    {f22 : Addr} {od22 an22 : Option Addr} {sl22 : Array (Option Value)} {oc22 kV22 dc22 pm22 cd22 ct22 : Value}
    {f20 : Addr} {od20 an20 : Option Addr} {sl20 : Array (Option Value)} {oc20 kV20 dc20 pm20 cd20 ct20 : Value}
    {f23 : Addr} {od23 an23 : Option Addr} {sl23 : Array (Option Value)} {oc23 kV23 dc23 pm23 cd23 ct23 : Value}
    {f12 : Addr} {od12 an12 : Option Addr} {sl12 : Array (Option Value)} {oc12 kV12 dc12 pm12 cd12 ct12 : Value}
    {f13 : Addr} {od13 an13 : Option Addr} {sl13 : Array (Option Value)} {oc13 kV13 dc13 pm13 cd13 ct13 : Value}
    {f18 : Addr} {od18 an18 : Option Addr} {sl18 : Array (Option Value)} {oc18 kV18 dc18 pm18 cd18 ct18 : Value}
    {f2 : Addr} {od2 an2 : Option Addr} {sl2 : Array (Option Value)} {oc2 kV2 dc2 pm2 cd2 ct2 : Value}
    {f21 : Addr} {od21 an21 : Option Addr} {sl21 : Array (Option Value)} {oc21 kV21 dc21 pm21 cd21 ct21 : Value}
    {f24 : Addr} {od24 an24 : Option Addr} {sl24 : Array (Option Value)} {oc24 kV24 dc24 pm24 cd24 ct24 : Value}
    {f38 : Addr} {od38 an38 : Option Addr} {sl38 : Array (Option Value)} {oc38 kV38 dc38 pm38 cd38 ct38 : Value}
    {f35 : Addr} {od35 an35 : Option Addr} {sl35 : Array (Option Value)} {oc35 kV35 dc35 pm35 cd35 ct35 : Value}
    {f36 : Addr} {od36 an36 : Option Addr} {sl36 : Array (Option Value)} {oc36 kV36 dc36 pm36 cd36 ct36 : Value}
    {f37 : Addr} {od37 an37 : Option Addr} {sl37 : Array (Option Value)} {oc37 kV37 dc37 pm37 cd37 ct37 : Value}
    {f39 : Addr} {od39 an39 : Option Addr} {sl39 : Array (Option Value)} {oc39 kV39 dc39 pm39 cd39 ct39 : Value}
    {f45 : Addr} {od45 an45 : Option Addr} {sl45 : Array (Option Value)} {oc45 kV45 dc45 pm45 cd45 ct45 : Value}
    {f40 : Addr} {od40 an40 : Option Addr} {sl40 : Array (Option Value)} {oc40 kV40 dc40 pm40 cd40 ct40 : Value}
    {f41 : Addr} {od41 an41 : Option Addr} {sl41 : Array (Option Value)} {oc41 kV41 dc41 pm41 cd41 ct41 : Value}
    {f47 : Addr} {od47 an47 : Option Addr} {sl47 : Array (Option Value)} {oc47 kV47 dc47 pm47 cd47 ct47 : Value}
    {f44 : Addr} {od44 an44 : Option Addr} {sl44 : Array (Option Value)} {oc44 kV44 dc44 pm44 cd44 ct44 : Value}
    {f48 : Addr} {od48 an48 : Option Addr} {sl48 : Array (Option Value)} {oc48 kV48 dc48 pm48 cd48 ct48 : Value}
    (a_SORTS : PySem.W.nsIn K mainGlobals "SORTS" = some (some (.ref q31)))
    (t31 : K.lookup q31 = some ⟨.type "dict", none, .dict #[⟨PyData.keyHash w.params (PySem.Str.ofString "free"), .str (PySem.Str.ofString "free") u31_0, .ref q2⟩, ⟨PyData.keyHash w.params (PySem.Str.ofString "join"), .str (PySem.Str.ofString "join") u31_1, .ref q6⟩, ⟨PyData.keyHash w.params (PySem.Str.ofString "meet"), .str (PySem.Str.ofString "meet") u31_2, .ref q10⟩, ⟨PyData.keyHash w.params (PySem.Str.ofString "curve"), .str (PySem.Str.ofString "curve") u31_3, .ref q17⟩, ⟨PyData.keyHash w.params (PySem.Str.ofString "about"), .str (PySem.Str.ofString "about") u31_4, .ref q21⟩, ⟨PyData.keyHash w.params (PySem.Str.ofString "pole"), .str (PySem.Str.ofString "pole") u31_5, .ref q25⟩, ⟨PyData.keyHash w.params (PySem.Str.ofString "other"), .str (PySem.Str.ofString "other") u31_6, .ref q30⟩] n31, #[]⟩)
    (y31 : (q31 == sysModules) = false)
    (t30 : K.lookup q30 = some ⟨.type "tuple", e30, .seq #[.str (PySem.Str.ofString "spot") tk26, .str (PySem.Str.ofString "curve") tk27, .str (PySem.Str.ofString "spot") tk28, .str (PySem.Str.ofString "spot") tk29] n30, r30⟩)
    (t25 : K.lookup q25 = some ⟨.type "tuple", e25, .seq #[.str (PySem.Str.ofString "spot") tk22, .str (PySem.Str.ofString "curve") tk23, .str (PySem.Str.ofString "line") tk24] n25, r25⟩)
    (t21 : K.lookup q21 = some ⟨.type "tuple", e21, .seq #[.str (PySem.Str.ofString "line") tk18, .str (PySem.Str.ofString "curve") tk19, .str (PySem.Str.ofString "spot") tk20] n21, r21⟩)
    (t17 : K.lookup q17 = some ⟨.type "tuple", e17, .seq #[.str (PySem.Str.ofString "curve") tk11, .str (PySem.Str.ofString "spot") tk12, .str (PySem.Str.ofString "spot") tk13, .str (PySem.Str.ofString "spot") tk14, .str (PySem.Str.ofString "spot") tk15, .str (PySem.Str.ofString "spot") tk16] n17, r17⟩)
    (t10 : K.lookup q10 = some ⟨.type "tuple", e10, .seq #[.str (PySem.Str.ofString "spot") tk7, .str (PySem.Str.ofString "line") tk8, .str (PySem.Str.ofString "line") tk9] n10, r10⟩)
    (t6 : K.lookup q6 = some ⟨.type "tuple", e6, .seq #[.str (PySem.Str.ofString "line") tk3, .str (PySem.Str.ofString "spot") tk4, .str (PySem.Str.ofString "spot") tk5] n6, r6⟩)
    (t2 : K.lookup q2 = some ⟨.type "tuple", e2, .seq #[.str (PySem.Str.ofString "spot") tk1] n2, r2⟩)
    (a_MOST_TERMS : PySem.W.nsIn K mainGlobals "MOST_TERMS" = some (some (.int 600 tk32)))
    (a_MOST_PAIRS : PySem.W.nsIn K mainGlobals "MOST_PAIRS" = some (some (.int 20000 tk33)))
    (a_MOST_POWER : PySem.W.nsIn K mainGlobals "MOST_POWER" = some (some (.int 60 tk34)))
    (a_FIRST_OF_TWO : PySem.W.nsIn K mainGlobals "FIRST_OF_TWO" = some (some (.ref q50)))
    (t50 : K.lookup q50 = some ⟨.type "tuple", e50, .seq #[.int 0 tk35, .int 0 tk36, .int 0 tk37, .int 0 tk38, .int 0 tk39, .int 1 tk40, .int 1 tk41, .int 1 tk42, .int 1 tk43, .int 2 tk44, .int 2 tk45, .int 2 tk46, .int 3 tk47, .int 3 tk48, .int 4 tk49] n50, r50⟩)
    (a_SECOND_OF_TWO : PySem.W.nsIn K mainGlobals "SECOND_OF_TWO" = some (some (.ref q66)))
    (t66 : K.lookup q66 = some ⟨.type "tuple", e66, .seq #[.int 1 tk51, .int 2 tk52, .int 3 tk53, .int 4 tk54, .int 5 tk55, .int 2 tk56, .int 3 tk57, .int 4 tk58, .int 5 tk59, .int 3 tk60, .int 4 tk61, .int 5 tk62, .int 4 tk63, .int 5 tk64, .int 5 tk65] n66, r66⟩)
    (a29 : PySem.W.nsIn K mainGlobals "_law_bag" = some (some (.ref f29)))
    (l29 : K.lookup f29 = some ⟨oc29, od29, .func (PySem.W.fnOf "_law_bag" "_law_bag" (defArgs s29) (defBody s29) (defScope s29) .none kV29 dc29 pm29 an29 cd29 ct29), sl29⟩)
    (c29 : PySem.W.codeIn K cd29 "_law_bag" = true)
    (k29 : PySem.W.keepIn K (.ref f29) = true)
    (a28 : PySem.W.nsIn K mainGlobals "_law_cell" = some (some (.ref f28)))
    (l28 : K.lookup f28 = some ⟨oc28, od28, .func (PySem.W.fnOf "_law_cell" "_law_cell" (defArgs s28) (defBody s28) (defScope s28) .none kV28 dc28 pm28 an28 cd28 ct28), sl28⟩)
    (c28 : PySem.W.codeIn K cd28 "_law_cell" = true)
    (k28 : PySem.W.keepIn K (.ref f28) = true)
    (a30 : PySem.W.nsIn K mainGlobals "_law_draw" = some (some (.ref f30)))
    (l30 : K.lookup f30 = some ⟨oc30, od30, .func (PySem.W.fnOf "_law_draw" "_law_draw" (defArgs s30) (defBody s30) (defScope s30) .none kV30 dc30 pm30 an30 cd30 ct30), sl30⟩)
    (c30 : PySem.W.codeIn K cd30 "_law_draw" = true)
    (k30 : PySem.W.keepIn K (.ref f30) = true)
    (a42 : PySem.W.nsIn K mainGlobals "_law_part" = some (some (.ref f42)))
    (l42 : K.lookup f42 = some ⟨oc42, od42, .func (PySem.W.fnOf "_law_part" "_law_part" (defArgs s42) (defBody s42) (defScope s42) .none kV42 dc42 pm42 an42 cd42 ct42), sl42⟩)
    (c42 : PySem.W.codeIn K cd42 "_law_part" = true)
    (k42 : PySem.W.keepIn K (.ref f42) = true)
    (a43 : PySem.W.nsIn K mainGlobals "_law_thing" = some (some (.ref f43)))
    (l43 : K.lookup f43 = some ⟨oc43, od43, .func (PySem.W.fnOf "_law_thing" "_law_thing" (defArgs s43) (defBody s43) (defScope s43) .none kV43 dc43 pm43 an43 cd43 ct43), sl43⟩)
    (c43 : PySem.W.codeIn K cd43 "_law_thing" = true)
    (k43 : PySem.W.keepIn K (.ref f43) = true)
    (a32 : PySem.W.nsIn K mainGlobals "_law_sort" = some (some (.ref f32)))
    (l32 : K.lookup f32 = some ⟨oc32, od32, .func (PySem.W.fnOf "_law_sort" "_law_sort" (defArgs s32) (defBody s32) (defScope s32) .none kV32 dc32 pm32 an32 cd32 ct32), sl32⟩)
    (c32 : PySem.W.codeIn K cd32 "_law_sort" = true)
    (k32 : PySem.W.keepIn K (.ref f32) = true)
    (a46 : PySem.W.nsIn K mainGlobals "_law_things" = some (some (.ref f46)))
    (l46 : K.lookup f46 = some ⟨oc46, od46, .func (PySem.W.fnOf "_law_things" "_law_things" (defArgs s46) (defBody s46) (defScope s46) .none kV46 dc46 pm46 an46 cd46 ct46), sl46⟩)
    (c46 : PySem.W.codeIn K cd46 "_law_things" = true)
    (k46 : PySem.W.keepIn K (.ref f46) = true)
    (a31 : PySem.W.nsIn K mainGlobals "_law_asks" = some (some (.ref f31)))
    (l31 : K.lookup f31 = some ⟨oc31, od31, .func (PySem.W.fnOf "_law_asks" "_law_asks" (defArgs s31) (defBody s31) (defScope s31) .none kV31 dc31 pm31 an31 cd31 ct31), sl31⟩)
    (c31 : PySem.W.codeIn K cd31 "_law_asks" = true)
    (k31 : PySem.W.keepIn K (.ref f31) = true)
    (a33 : PySem.W.nsIn K mainGlobals "_law_pick" = some (some (.ref f33)))
    (l33 : K.lookup f33 = some ⟨oc33, od33, .func (PySem.W.fnOf "_law_pick" "_law_pick" (defArgs s33) (defBody s33) (defScope s33) .none kV33 dc33 pm33 an33 cd33 ct33), sl33⟩)
    (c33 : PySem.W.codeIn K cd33 "_law_pick" = true)
    (k33 : PySem.W.keepIn K (.ref f33) = true)
    (a34 : PySem.W.nsIn K mainGlobals "_law_row" = some (some (.ref f34)))
    (l34 : K.lookup f34 = some ⟨oc34, od34, .func (PySem.W.fnOf "_law_row" "_law_row" (defArgs s34) (defBody s34) (defScope s34) .none kV34 dc34 pm34 an34 cd34 ct34), sl34⟩)
    (c34 : PySem.W.codeIn K cd34 "_law_row" = true)
    (k34 : PySem.W.keepIn K (.ref f34) = true)
    (a10 : PySem.W.nsIn K mainGlobals "in_order" = some (some (.ref f10)))
    (l10 : K.lookup f10 = some ⟨oc10, od10, .func (PySem.W.fnOf "in_order" "in_order" (defArgs s10) (defBody s10) (defScope s10) .none kV10 dc10 pm10 an10 cd10 ct10), sl10⟩)
    (c10 : PySem.W.codeIn K cd10 "in_order" = true)
    (k10 : PySem.W.keepIn K (.ref f10) = true)
    (a11 : PySem.W.nsIn K mainGlobals "plus" = some (some (.ref f11)))
    (l11 : K.lookup f11 = some ⟨oc11, od11, .func (PySem.W.fnOf "plus" "plus" (defArgs s11) (defBody s11) (defScope s11) .none kV11 dc11 pm11 an11 cd11 ct11), sl11⟩)
    (c11 : PySem.W.codeIn K cd11 "plus" = true)
    (k11 : PySem.W.keepIn K (.ref f11) = true)
    (a14 : PySem.W.nsIn K mainGlobals "together" = some (some (.ref f14)))
    (l14 : K.lookup f14 = some ⟨oc14, od14, .func (PySem.W.fnOf "together" "together" (defArgs s14) (defBody s14) (defScope s14) .none kV14 dc14 pm14 an14 cd14 ct14), sl14⟩)
    (c14 : PySem.W.codeIn K cd14 "together" = true)
    (k14 : PySem.W.keepIn K (.ref f14) = true)
    (a15 : PySem.W.nsIn K mainGlobals "heights" = some (some (.ref f15)))
    (l15 : K.lookup f15 = some ⟨oc15, od15, .func (PySem.W.fnOf "heights" "heights" (defArgs s15) (defBody s15) (defScope s15) .none kV15 dc15 pm15 an15 cd15 ct15), sl15⟩)
    (c15 : PySem.W.codeIn K cd15 "heights" = true)
    (k15 : PySem.W.keepIn K (.ref f15) = true)
    (a16 : PySem.W.nsIn K mainGlobals "times" = some (some (.ref f16)))
    (l16 : K.lookup f16 = some ⟨oc16, od16, .func (PySem.W.fnOf "times" "times" (defArgs s16) (defBody s16) (defScope s16) .none kV16 dc16 pm16 an16 cd16 ct16), sl16⟩)
    (c16 : PySem.W.codeIn K cd16 "times" = true)
    (k16 : PySem.W.keepIn K (.ref f16) = true)
    (a19 : PySem.W.nsIn K mainGlobals "dotted" = some (some (.ref f19)))
    (l19 : K.lookup f19 = some ⟨oc19, od19, .func (PySem.W.fnOf "dotted" "dotted" (defArgs s19) (defBody s19) (defScope s19) .none kV19 dc19 pm19 an19 cd19 ct19), sl19⟩)
    (c19 : PySem.W.codeIn K cd19 "dotted" = true)
    (k19 : PySem.W.keepIn K (.ref f19) = true)
    (a22 : PySem.W.nsIn K mainGlobals "led_by" = some (some (.ref f22)))
    (l22 : K.lookup f22 = some ⟨oc22, od22, .func (PySem.W.fnOf "led_by" "led_by" (defArgs s22) (defBody s22) (defScope s22) .none kV22 dc22 pm22 an22 cd22 ct22), sl22⟩)
    (c22 : PySem.W.codeIn K cd22 "led_by" = true)
    (k22 : PySem.W.keepIn K (.ref f22) = true)
    (a20 : PySem.W.nsIn K mainGlobals "table_rows" = some (some (.ref f20)))
    (l20 : K.lookup f20 = some ⟨oc20, od20, .func (PySem.W.fnOf "table_rows" "table_rows" (defArgs s20) (defBody s20) (defScope s20) .none kV20 dc20 pm20 an20 cd20 ct20), sl20⟩)
    (c20 : PySem.W.codeIn K cd20 "table_rows" = true)
    (k20 : PySem.W.keepIn K (.ref f20) = true)
    (a23 : PySem.W.nsIn K mainGlobals "tie" = some (some (.ref f23)))
    (l23 : K.lookup f23 = some ⟨oc23, od23, .func (PySem.W.fnOf "tie" "tie" (defArgs s23) (defBody s23) (defScope s23) .none kV23 dc23 pm23 an23 cd23 ct23), sl23⟩)
    (c23 : PySem.W.codeIn K cd23 "tie" = true)
    (k23 : PySem.W.keepIn K (.ref f23) = true)
    (a12 : PySem.W.nsIn K mainGlobals "turned" = some (some (.ref f12)))
    (l12 : K.lookup f12 = some ⟨oc12, od12, .func (PySem.W.fnOf "turned" "turned" (defArgs s12) (defBody s12) (defScope s12) .none kV12 dc12 pm12 an12 cd12 ct12), sl12⟩)
    (c12 : PySem.W.codeIn K cd12 "turned" = true)
    (k12 : PySem.W.keepIn K (.ref f12) = true)
    (a13 : PySem.W.nsIn K mainGlobals "minus" = some (some (.ref f13)))
    (l13 : K.lookup f13 = some ⟨oc13, od13, .func (PySem.W.fnOf "minus" "minus" (defArgs s13) (defBody s13) (defScope s13) .none kV13 dc13 pm13 an13 cd13 ct13), sl13⟩)
    (c13 : PySem.W.codeIn K cd13 "minus" = true)
    (k13 : PySem.W.keepIn K (.ref f13) = true)
    (a18 : PySem.W.nsIn K mainGlobals "crossed" = some (some (.ref f18)))
    (l18 : K.lookup f18 = some ⟨oc18, od18, .func (PySem.W.fnOf "crossed" "crossed" (defArgs s18) (defBody s18) (defScope s18) .none kV18 dc18 pm18 an18 cd18 ct18), sl18⟩)
    (c18 : PySem.W.codeIn K cd18 "crossed" = true)
    (k18 : PySem.W.keepIn K (.ref f18) = true)
    (a2 : PySem.W.nsIn K mainGlobals "sort_of" = some (some (.ref f2)))
    (l2 : K.lookup f2 = some ⟨oc2, od2, .func (PySem.W.fnOf "sort_of" "sort_of" (defArgs s2) (defBody s2) (defScope s2) .none kV2 dc2 pm2 an2 cd2 ct2), sl2⟩)
    (c2 : PySem.W.codeIn K cd2 "sort_of" = true)
    (k2 : PySem.W.keepIn K (.ref f2) = true)
    (a21 : PySem.W.nsIn K mainGlobals "turned_rows" = some (some (.ref f21)))
    (l21 : K.lookup f21 = some ⟨oc21, od21, .func (PySem.W.fnOf "turned_rows" "turned_rows" (defArgs s21) (defBody s21) (defScope s21) .none kV21 dc21 pm21 an21 cd21 ct21), sl21⟩)
    (c21 : PySem.W.codeIn K cd21 "turned_rows" = true)
    (k21 : PySem.W.keepIn K (.ref f21) = true)
    (a24 : PySem.W.nsIn K mainGlobals "claim_sums" = some (some (.ref f24)))
    (l24 : K.lookup f24 = some ⟨oc24, od24, .func (PySem.W.fnOf "claim_sums" "claim_sums" (defArgs s24) (defBody s24) (defScope s24) .none kV24 dc24 pm24 an24 cd24 ct24), sl24⟩)
    (c24 : PySem.W.codeIn K cd24 "claim_sums" = true)
    (k24 : PySem.W.keepIn K (.ref f24) = true)
    (a38 : PySem.W.nsIn K mainGlobals "_law_rows_of" = some (some (.ref f38)))
    (l38 : K.lookup f38 = some ⟨oc38, od38, .func (PySem.W.fnOf "_law_rows_of" "_law_rows_of" (defArgs s38) (defBody s38) (defScope s38) .none kV38 dc38 pm38 an38 cd38 ct38), sl38⟩)
    (c38 : PySem.W.codeIn K cd38 "_law_rows_of" = true)
    (k38 : PySem.W.keepIn K (.ref f38) = true)
    (a35 : PySem.W.nsIn K mainGlobals "_law_cross" = some (some (.ref f35)))
    (l35 : K.lookup f35 = some ⟨oc35, od35, .func (PySem.W.fnOf "_law_cross" "_law_cross" (defArgs s35) (defBody s35) (defScope s35) .none kV35 dc35 pm35 an35 cd35 ct35), sl35⟩)
    (c35 : PySem.W.codeIn K cd35 "_law_cross" = true)
    (k35 : PySem.W.keepIn K (.ref f35) = true)
    (a36 : PySem.W.nsIn K mainGlobals "_law_dot" = some (some (.ref f36)))
    (l36 : K.lookup f36 = some ⟨oc36, od36, .func (PySem.W.fnOf "_law_dot" "_law_dot" (defArgs s36) (defBody s36) (defScope s36) .none kV36 dc36 pm36 an36 cd36 ct36), sl36⟩)
    (c36 : PySem.W.codeIn K cd36 "_law_dot" = true)
    (k36 : PySem.W.keepIn K (.ref f36) = true)
    (a37 : PySem.W.nsIn K mainGlobals "_law_turn" = some (some (.ref f37)))
    (l37 : K.lookup f37 = some ⟨oc37, od37, .func (PySem.W.fnOf "_law_turn" "_law_turn" (defArgs s37) (defBody s37) (defScope s37) .none kV37 dc37 pm37 an37 cd37 ct37), sl37⟩)
    (c37 : PySem.W.codeIn K cd37 "_law_turn" = true)
    (k37 : PySem.W.keepIn K (.ref f37) = true)
    (a39 : PySem.W.nsIn K mainGlobals "_law_times" = some (some (.ref f39)))
    (l39 : K.lookup f39 = some ⟨oc39, od39, .func (PySem.W.fnOf "_law_times" "_law_times" (defArgs s39) (defBody s39) (defScope s39) .none kV39 dc39 pm39 an39 cd39 ct39), sl39⟩)
    (c39 : PySem.W.codeIn K cd39 "_law_times" = true)
    (k39 : PySem.W.keepIn K (.ref f39) = true)
    (a45 : PySem.W.nsIn K mainGlobals "_law_numbers" = some (some (.ref f45)))
    (l45 : K.lookup f45 = some ⟨oc45, od45, .func (PySem.W.fnOf "_law_numbers" "_law_numbers" (defArgs s45) (defBody s45) (defScope s45) .none kV45 dc45 pm45 an45 cd45 ct45), sl45⟩)
    (c45 : PySem.W.codeIn K cd45 "_law_numbers" = true)
    (k45 : PySem.W.keepIn K (.ref f45) = true)
    (a40 : PySem.W.nsIn K mainGlobals "_law_at" = some (some (.ref f40)))
    (l40 : K.lookup f40 = some ⟨oc40, od40, .func (PySem.W.fnOf "_law_at" "_law_at" (defArgs s40) (defBody s40) (defScope s40) .none kV40 dc40 pm40 an40 cd40 ct40), sl40⟩)
    (c40 : PySem.W.codeIn K cd40 "_law_at" = true)
    (k40 : PySem.W.keepIn K (.ref f40) = true)
    (a41 : PySem.W.nsIn K mainGlobals "_law_sum_good" = some (some (.ref f41)))
    (l41 : K.lookup f41 = some ⟨oc41, od41, .func (PySem.W.fnOf "_law_sum_good" "_law_sum_good" (defArgs s41) (defBody s41) (defScope s41) .none kV41 dc41 pm41 an41 cd41 ct41), sl41⟩)
    (c41 : PySem.W.codeIn K cd41 "_law_sum_good" = true)
    (k41 : PySem.W.keepIn K (.ref f41) = true)
    (a47 : PySem.W.nsIn K mainGlobals "_law_claim_good" = some (some (.ref f47)))
    (l47 : K.lookup f47 = some ⟨oc47, od47, .func (PySem.W.fnOf "_law_claim_good" "_law_claim_good" (defArgs s47) (defBody s47) (defScope s47) .none kV47 dc47 pm47 an47 cd47 ct47), sl47⟩)
    (c47 : PySem.W.codeIn K cd47 "_law_claim_good" = true)
    (k47 : PySem.W.keepIn K (.ref f47) = true)
    (a44 : PySem.W.nsIn K mainGlobals "_law_claim" = some (some (.ref f44)))
    (l44 : K.lookup f44 = some ⟨oc44, od44, .func (PySem.W.fnOf "_law_claim" "_law_claim" (defArgs s44) (defBody s44) (defScope s44) .none kV44 dc44 pm44 an44 cd44 ct44), sl44⟩)
    (c44 : PySem.W.codeIn K cd44 "_law_claim" = true)
    (k44 : PySem.W.keepIn K (.ref f44) = true)
    (a48 : PySem.W.nsIn K mainGlobals "law" = some (some (.ref f48)))
    (l48 : K.lookup f48 = some ⟨oc48, od48, .func (PySem.W.fnOf "law" "law" (defArgs s48) (defBody s48) (defScope s48) .none kV48 dc48 pm48 an48 cd48 ct48), sl48⟩)
    (c48 : PySem.W.codeIn K cd48 "law" = true)
    (k48 : PySem.W.keepIn K (.ref f48) = true)
    (z_abs : PySem.W.nsIn K mainGlobals "abs" = some none)
    (z_bool : PySem.W.nsIn K mainGlobals "bool" = some none)
    (z_dict : PySem.W.nsIn K mainGlobals "dict" = some none)
    (z_int : PySem.W.nsIn K mainGlobals "int" = some none)
    (z_isinstance : PySem.W.nsIn K mainGlobals "isinstance" = some none)
    (z_len : PySem.W.nsIn K mainGlobals "len" = some none)
    (z_list : PySem.W.nsIn K mainGlobals "list" = some none)
    (z_max : PySem.W.nsIn K mainGlobals "max" = some none)
    (z_min : PySem.W.nsIn K mainGlobals "min" = some none)
    (z_range : PySem.W.nsIn K mainGlobals "range" = some none)
    (z_sorted : PySem.W.nsIn K mainGlobals "sorted" = some none)
    (z_tuple : PySem.W.nsIn K mainGlobals "tuple" = some none)
    (z_zip : PySem.W.nsIn K mainGlobals "zip" = some none) :
    ∃ fd : FuncData, (∀ (s : Shared) (v : Value), BindsTo s fd ⟨[v], []⟩ [("script", v)]) ∧ ∀ base : Heap, K.In base → base.Ns mainGlobals mg → FnOk l.prog w K mg base (L2.CX l.prog w) 8 fa fd ["script"] (spF (cK K) d_law_law [false] false) := by
  have e := hfa.symm.trans (PySem.W.mg_of X G a48)
  cases e
  have tkc : TKc (cK K) zLaw := fun d ks h => by show (tkey zLaw d).isNone = false; rw [h]; rfl
  have nb : NB mg := ⟨PySem.W.mg_none_of X G z_abs, PySem.W.mg_none_of X G z_bool, PySem.W.mg_none_of X G z_dict, PySem.W.mg_none_of X G z_int, PySem.W.mg_none_of X G z_isinstance, PySem.W.mg_none_of X G z_len, PySem.W.mg_none_of X G z_list, PySem.W.mg_none_of X G z_max, PySem.W.mg_none_of X G z_min, PySem.W.mg_none_of X G z_range, PySem.W.mg_none_of X G z_sorted, PySem.W.mg_none_of X G z_tuple, PySem.W.mg_none_of X G z_zip⟩
  have g_SORTS : KOk K w mg (cK K) "SORTS" k_SORTS := kok_of rfl (by show ∀ p, p ∈ k_SORTS → allK (fun d => (tkey zLaw d).isNone) p.2 = true; decide) (PySem.W.mg_of X G a_SORTS) t31 y31 (ent_cons (.tup t2 (Nat.le_of_ble_eq_true rfl) (wr_cons (.str _ _) wr_nil)) (ent_cons (.tup t6 (Nat.le_of_ble_eq_true rfl) (wr_cons (.str _ _) (wr_cons (.str _ _) (wr_cons (.str _ _) wr_nil)))) (ent_cons (.tup t10 (Nat.le_of_ble_eq_true rfl) (wr_cons (.str _ _) (wr_cons (.str _ _) (wr_cons (.str _ _) wr_nil)))) (ent_cons (.tup t17 (Nat.le_of_ble_eq_true rfl) (wr_cons (.str _ _) (wr_cons (.str _ _) (wr_cons (.str _ _) (wr_cons (.str _ _) (wr_cons (.str _ _) (wr_cons (.str _ _) wr_nil))))))) (ent_cons (.tup t21 (Nat.le_of_ble_eq_true rfl) (wr_cons (.str _ _) (wr_cons (.str _ _) (wr_cons (.str _ _) wr_nil)))) (ent_cons (.tup t25 (Nat.le_of_ble_eq_true rfl) (wr_cons (.str _ _) (wr_cons (.str _ _) (wr_cons (.str _ _) wr_nil)))) (ent_cons (.tup t30 (Nat.le_of_ble_eq_true rfl) (wr_cons (.str _ _) (wr_cons (.str _ _) (wr_cons (.str _ _) (wr_cons (.str _ _) wr_nil))))) ent_nil)))))))
  have g_MOST_TERMS : GOk mg (cK K) "MOST_TERMS" k_MOST_TERMS := gok_of rfl (by rfl) (PySem.W.mg_of X G a_MOST_TERMS) (.int _ _)
  have g_MOST_PAIRS : GOk mg (cK K) "MOST_PAIRS" k_MOST_PAIRS := gok_of rfl (by rfl) (PySem.W.mg_of X G a_MOST_PAIRS) (.int _ _)
  have g_MOST_POWER : GOk mg (cK K) "MOST_POWER" k_MOST_POWER := gok_of rfl (by rfl) (PySem.W.mg_of X G a_MOST_POWER) (.int _ _)
  have g_FIRST_OF_TWO : GOk mg (cK K) "FIRST_OF_TWO" k_FIRST_OF_TWO := gok_of rfl (by rfl) (PySem.W.mg_of X G a_FIRST_OF_TWO) (.tup t50 (Nat.le_of_ble_eq_true rfl) (wr_cons (.int _ _) (wr_cons (.int _ _) (wr_cons (.int _ _) (wr_cons (.int _ _) (wr_cons (.int _ _) (wr_cons (.int _ _) (wr_cons (.int _ _) (wr_cons (.int _ _) (wr_cons (.int _ _) (wr_cons (.int _ _) (wr_cons (.int _ _) (wr_cons (.int _ _) (wr_cons (.int _ _) (wr_cons (.int _ _) (wr_cons (.int _ _) wr_nil))))))))))))))))
  have g_SECOND_OF_TWO : GOk mg (cK K) "SECOND_OF_TWO" k_SECOND_OF_TWO := gok_of rfl (by rfl) (PySem.W.mg_of X G a_SECOND_OF_TWO) (.tup t66 (Nat.le_of_ble_eq_true rfl) (wr_cons (.int _ _) (wr_cons (.int _ _) (wr_cons (.int _ _) (wr_cons (.int _ _) (wr_cons (.int _ _) (wr_cons (.int _ _) (wr_cons (.int _ _) (wr_cons (.int _ _) (wr_cons (.int _ _) (wr_cons (.int _ _) (wr_cons (.int _ _) (wr_cons (.int _ _) (wr_cons (.int _ _) (wr_cons (.int _ _) (wr_cons (.int _ _) wr_nil))))))))))))))))
  refine ⟨PySem.W.fnOf "law" "law" (defArgs s48) (defBody s48) (defScope s48) .none kV48 dc48 pm48 an48 cd48 ct48, fun s v => .of_eq rfl, fun base _ _ => ?_⟩
  have h__law_bag : DefOk l.prog w K mg base (cK K) "_law_bag" d_law_law_bag [false] true 1 := w29_law_bag_ok nb rfl tkc (fun_mk (st := s29) l29 c29 k29) (PySem.W.mg_of X G a29)
  have h__law_cell : DefOk l.prog w K mg base (cK K) "_law_cell" d_law_law_cell [false, false] false 1 := w28_law_cell_ok nb rfl tkc (fun_mk (st := s28) l28 c28 k28) (PySem.W.mg_of X G a28)
  have h__law_draw : DefOk l.prog w K mg base (cK K) "_law_draw" d_law_law_draw [true, false] false 1 := w30_law_draw_ok nb rfl tkc (fun_mk (st := s30) l30 c30 k30) (PySem.W.mg_of X G a30)
  have h__law_part : DefOk l.prog w K mg base (cK K) "_law_part" d_law_law_part [true, false, false] true 2 := w42_law_part_ok nb rfl tkc h__law_draw (fun_mk (st := s42) l42 c42 k42) (PySem.W.mg_of X G a42)
  have h__law_thing : DefOk l.prog w K mg base (cK K) "_law_thing" d_law_law_thing [true, false, false, false] false 3 := w43_law_thing_ok nb rfl tkc h__law_part (fun_mk (st := s43) l43 c43 k43) (PySem.W.mg_of X G a43)
  have h__law_sort : DefOk l.prog w K mg base (cK K) "_law_sort" d_law_law_sort [false] false 1 := w32_law_sort_ok nb rfl tkc (fun_mk (st := s32) l32 c32 k32) (PySem.W.mg_of X G a32)
  have h__law_things : DefOk l.prog w K mg base (cK K) "_law_things" d_law_law_things [false, false, false] true 4 := w46_law_things_ok nb rfl tkc h__law_bag h__law_cell h__law_draw h__law_thing h__law_sort (fun_mk (st := s46) l46 c46 k46) (PySem.W.mg_of X G a46)
  have h__law_asks : DefOk l.prog w K mg base (cK K) "_law_asks" d_law_law_asks [false] false 1 := w31_law_asks_ok nb rfl tkc (fun_mk (st := s31) l31 c31 k31) (PySem.W.mg_of X G a31)
  have h__law_pick : DefOk l.prog w K mg base (cK K) "_law_pick" d_law_law_pick [true, false, false] false 2 := w33_law_pick_ok nb rfl tkc h__law_draw h__law_sort (fun_mk (st := s33) l33 c33 k33) (PySem.W.mg_of X G a33)
  have h__law_row : DefOk l.prog w K mg base (cK K) "_law_row" d_law_law_row [true, false, false] false 3 := w34_law_row_ok nb rfl tkc h__law_sort h__law_draw h__law_asks h__law_pick (fun_mk (st := s34) l34 c34 k34) (PySem.W.mg_of X G a34)
  have h_in_order : DefOk l.prog w K mg base (cK K) "in_order" d_letters_in_order [true] false 1 := w10_in_order_ok nb rfl tkc g_MOST_TERMS (fun_mk (st := s10) l10 c10 k10) (PySem.W.mg_of X G a10)
  have h_plus : DefOk l.prog w K mg base (cK K) "plus" d_letters_plus [false, false] false 2 := w11_plus_ok nb rfl tkc h_in_order (fun_mk (st := s11) l11 c11 k11) (PySem.W.mg_of X G a11)
  have h_together : DefOk l.prog w K mg base (cK K) "together" d_letters_together [false, false] false 1 := w14_together_ok nb rfl tkc (fun_mk (st := s14) l14 c14 k14) (PySem.W.mg_of X G a14)
  have h_heights : DefOk l.prog w K mg base (cK K) "heights" d_letters_heights [false] false 1 := w15_heights_ok nb rfl tkc (fun_mk (st := s15) l15 c15 k15) (PySem.W.mg_of X G a15)
  have h_times : DefOk l.prog w K mg base (cK K) "times" d_letters_times [false, false] false 2 := w16_times_ok nb rfl tkc g_MOST_PAIRS g_MOST_POWER h_in_order h_together h_heights (fun_mk (st := s16) l16 c16 k16) (PySem.W.mg_of X G a16)
  have h_dotted : DefOk l.prog w K mg base (cK K) "dotted" d_raws_dotted [false, false] false 3 := w19_dotted_ok nb rfl tkc h_plus h_times (fun_mk (st := s19) l19 c19 k19) (PySem.W.mg_of X G a19)
  have h_led_by : DefOk l.prog w K mg base (cK K) "led_by" d_raws_led_by [false, false] false 4 := w22_led_by_ok nb rfl tkc h_dotted (fun_mk (st := s22) l22 c22 k22) (PySem.W.mg_of X G a22)
  have h_table_rows : DefOk l.prog w K mg base (cK K) "table_rows" d_raws_table_rows [false] true 3 := w20_table_rows_ok nb rfl tkc h_plus (fun_mk (st := s20) l20 c20 k20) (PySem.W.mg_of X G a20)
  have h_tie : DefOk l.prog w K mg base (cK K) "tie" d_raws_tie [false, false, false] false 5 := w23_tie_ok nb rfl tkc h_dotted h_led_by h_table_rows (fun_mk (st := s23) l23 c23 k23) (PySem.W.mg_of X G a23)
  have h_turned : DefOk l.prog w K mg base (cK K) "turned" d_letters_turned [false] false 1 := w12_turned_ok nb rfl tkc (fun_mk (st := s12) l12 c12 k12) (PySem.W.mg_of X G a12)
  have h_minus : DefOk l.prog w K mg base (cK K) "minus" d_letters_minus [false, false] false 3 := w13_minus_ok nb rfl tkc h_plus h_turned (fun_mk (st := s13) l13 c13 k13) (PySem.W.mg_of X G a13)
  have h_crossed : DefOk l.prog w K mg base (cK K) "crossed" d_raws_crossed [false, false] false 4 := w18_crossed_ok nb rfl tkc h_minus h_times (fun_mk (st := s18) l18 c18 k18) (PySem.W.mg_of X G a18)
  have h_sort_of : DefOk l.prog w K mg base (cK K) "sort_of" d_drawings_sort_of [false, false] false 1 := w2_sort_of_ok nb rfl tkc g_SORTS (fun_mk (st := s2) l2 c2 k2) (PySem.W.mg_of X G a2)
  have h_turned_rows : DefOk l.prog w K mg base (cK K) "turned_rows" d_raws_turned_rows [false] true 5 := w21_turned_rows_ok nb rfl tkc h_crossed (fun_mk (st := s21) l21 c21 k21) (PySem.W.mg_of X G a21)
  have h_claim_sums : DefOk l.prog w K mg base (cK K) "claim_sums" d_raws_claim_sums [false, false, false] true 6 := w24_claim_sums_ok nb rfl tkc g_FIRST_OF_TWO g_SECOND_OF_TWO h_table_rows h_dotted h_crossed h_minus h_sort_of h_times h_led_by h_turned_rows (fun_mk (st := s24) l24 c24 k24) (PySem.W.mg_of X G a24)
  have h__law_rows_of : DefOk l.prog w K mg base (cK K) "_law_rows_of" d_law_law_rows_of [false] true 1 := w38_law_rows_of_ok nb rfl tkc (fun_mk (st := s38) l38 c38 k38) (PySem.W.mg_of X G a38)
  have h__law_cross : DefOk l.prog w K mg base (cK K) "_law_cross" d_law_law_cross [false, false] false 1 := w35_law_cross_ok nb rfl tkc (fun_mk (st := s35) l35 c35 k35) (PySem.W.mg_of X G a35)
  have h__law_dot : DefOk l.prog w K mg base (cK K) "_law_dot" d_law_law_dot [false, false] false 1 := w36_law_dot_ok nb rfl tkc (fun_mk (st := s36) l36 c36 k36) (PySem.W.mg_of X G a36)
  have h__law_turn : DefOk l.prog w K mg base (cK K) "_law_turn" d_law_law_turn [false, false, false] false 2 := w37_law_turn_ok nb rfl tkc h__law_dot h__law_cross (fun_mk (st := s37) l37 c37 k37) (PySem.W.mg_of X G a37)
  have h__law_times : DefOk l.prog w K mg base (cK K) "_law_times" d_law_law_times [false, false] false 2 := w39_law_times_ok nb rfl tkc h__law_dot h__law_rows_of (fun_mk (st := s39) l39 c39 k39) (PySem.W.mg_of X G a39)
  have h__law_numbers : DefOk l.prog w K mg base (cK K) "_law_numbers" d_law_law_numbers [false, false, false] false 3 := w45_law_numbers_ok nb rfl tkc h__law_rows_of h__law_cross h__law_dot h__law_turn h__law_times (fun_mk (st := s45) l45 c45 k45) (PySem.W.mg_of X G a45)
  have h__law_at : DefOk l.prog w K mg base (cK K) "_law_at" d_law_law_at [false, false] false 1 := w40_law_at_ok nb rfl tkc (fun_mk (st := s40) l40 c40 k40) (PySem.W.mg_of X G a40)
  have h__law_sum_good : DefOk l.prog w K mg base (cK K) "_law_sum_good" d_law_law_sum_good [false, false] false 1 := w41_law_sum_good_ok nb rfl tkc (fun_mk (st := s41) l41 c41 k41) (PySem.W.mg_of X G a41)
  have h__law_claim_good : DefOk l.prog w K mg base (cK K) "_law_claim_good" d_law_law_claim_good [false, false, false, false, false] false 7 := w47_law_claim_good_ok nb rfl tkc h_claim_sums h__law_numbers h__law_at h__law_sum_good (fun_mk (st := s47) l47 c47 k47) (PySem.W.mg_of X G a47)
  have h__law_claim : DefOk l.prog w K mg base (cK K) "_law_claim" d_law_law_claim [true, false] false 3 := w44_law_claim_ok nb rfl tkc h__law_sort h__law_draw h__law_pick (fun_mk (st := s44) l44 c44 k44) (PySem.W.mg_of X G a44)
  exact w48_law_ok nb rfl tkc h__law_things h__law_bag h__law_cell h__law_row h_tie h__law_claim_good h__law_sum_good h__law_claim h__law_draw h__law_at h__law_dot h__law_times (fun_mk (st := s48) l48 c48 k48)
end L72
open PySem PySem.W PyProof.Rows
set_option maxHeartbeats 0 in
theorem PySem.Challenge.cw_easelroom_k72_ties_and_claims_at_numbers_holds : PySem.Challenge.rw_easelroom_k72_ties_and_claims_at_numbers.Holds := by
  w_on; o_law; k_head; (case hw => w_witness2)
  k_fill
  refine L2.walk_ofB (l := PySem.Challenge.rw_easelroom_k72_ties_and_claims_at_numbers) (n := 63) (k := 8) (x := "script") (CX := fun w => L2.CX (PySem.Challenge.rw_easelroom_k72_ties_and_claims_at_numbers).prog w) (sp := fun w => Dn.spF (L72.cK _) Dn.d_law_law [false] false) rfl (by decide) rfl ⟨rfl, by decide, by decide⟩ (fun w h Y => PySem.W.kIn_of Y) ?F (fun w H a ns hl hb _ hS => Dn.law_sp rfl hS (L72.plain ns hl hb)) (fun _ _ _ _ _ z => Dn.cx_no z)
  case F =>
    intro w mg fa h KX G hmg
    refine' L72.all_mk KX G hmg ?a_SORTS ?t31 ?y31 ?t30 ?t25 ?t21 ?t17 ?t10 ?t6 ?t2 ?a_MOST_TERMS ?a_MOST_PAIRS ?a_MOST_POWER ?a_FIRST_OF_TWO ?t50 ?a_SECOND_OF_TWO ?t66 ?a29 ?l29 ?c29 ?k29 ?a28 ?l28 ?c28 ?k28 ?a30 ?l30 ?c30 ?k30 ?a42 ?l42 ?c42 ?k42 ?a43 ?l43 ?c43 ?k43 ?a32 ?l32 ?c32 ?k32 ?a46 ?l46 ?c46 ?k46 ?a31 ?l31 ?c31 ?k31 ?a33 ?l33 ?c33 ?k33 ?a34 ?l34 ?c34 ?k34 ?a10 ?l10 ?c10 ?k10 ?a11 ?l11 ?c11 ?k11 ?a14 ?l14 ?c14 ?k14 ?a15 ?l15 ?c15 ?k15 ?a16 ?l16 ?c16 ?k16 ?a19 ?l19 ?c19 ?k19 ?a22 ?l22 ?c22 ?k22 ?a20 ?l20 ?c20 ?k20 ?a23 ?l23 ?c23 ?k23 ?a12 ?l12 ?c12 ?k12 ?a13 ?l13 ?c13 ?k13 ?a18 ?l18 ?c18 ?k18 ?a2 ?l2 ?c2 ?k2 ?a21 ?l21 ?c21 ?k21 ?a24 ?l24 ?c24 ?k24 ?a38 ?l38 ?c38 ?k38 ?a35 ?l35 ?c35 ?k35 ?a36 ?l36 ?c36 ?k36 ?a37 ?l37 ?c37 ?k37 ?a39 ?l39 ?c39 ?k39 ?a45 ?l45 ?c45 ?k45 ?a40 ?l40 ?c40 ?k40 ?a41 ?l41 ?c41 ?k41 ?a47 ?l47 ?c47 ?k47 ?a44 ?l44 ?c44 ?k44 ?a48 ?l48 ?c48 ?k48 ?z_abs ?z_bool ?z_dict ?z_int ?z_isinstance ?z_len ?z_list ?z_max ?z_min ?z_range ?z_sorted ?z_tuple ?z_zip
    (case a_SORTS => k_is); (case t31 => k_is); (case y31 => first | rfl | decide); (case t30 => k_is); (case t25 => k_is); (case t21 => k_is)
    (case t17 => k_is); (case t10 => k_is); (case t6 => k_is); (case t2 => k_is); (case a_MOST_TERMS => k_is); (case a_MOST_PAIRS => k_is)
    (case a_MOST_POWER => k_is); (case a_FIRST_OF_TWO => k_is); (case t50 => k_is); (case a_SECOND_OF_TWO => k_is); (case t66 => k_is); (case a29 => k_is)
    (case l29 => k_is); (case c29 => k_is); (case k29 => k_is); (case a28 => k_is); (case l28 => k_is); (case c28 => k_is)
    (case k28 => k_is); (case a30 => k_is); (case l30 => k_is); (case c30 => k_is); (case k30 => k_is); (case a42 => k_is)
    (case l42 => k_is); (case c42 => k_is); (case k42 => k_is); (case a43 => k_is); (case l43 => k_is); (case c43 => k_is)
    (case k43 => k_is); (case a32 => k_is); (case l32 => k_is); (case c32 => k_is); (case k32 => k_is); (case a46 => k_is)
    (case l46 => k_is); (case c46 => k_is); (case k46 => k_is); (case a31 => k_is); (case l31 => k_is); (case c31 => k_is)
    (case k31 => k_is); (case a33 => k_is); (case l33 => k_is); (case c33 => k_is); (case k33 => k_is); (case a34 => k_is)
    (case l34 => k_is); (case c34 => k_is); (case k34 => k_is); (case a10 => k_is); (case l10 => k_is); (case c10 => k_is)
    (case k10 => k_is); (case a11 => k_is); (case l11 => k_is); (case c11 => k_is); (case k11 => k_is); (case a14 => k_is)
    (case l14 => k_is); (case c14 => k_is); (case k14 => k_is); (case a15 => k_is); (case l15 => k_is); (case c15 => k_is)
    (case k15 => k_is); (case a16 => k_is); (case l16 => k_is); (case c16 => k_is); (case k16 => k_is); (case a19 => k_is)
    (case l19 => k_is); (case c19 => k_is); (case k19 => k_is); (case a22 => k_is); (case l22 => k_is); (case c22 => k_is)
    (case k22 => k_is); (case a20 => k_is); (case l20 => k_is); (case c20 => k_is); (case k20 => k_is); (case a23 => k_is)
    (case l23 => k_is); (case c23 => k_is); (case k23 => k_is); (case a12 => k_is); (case l12 => k_is); (case c12 => k_is)
    (case k12 => k_is); (case a13 => k_is); (case l13 => k_is); (case c13 => k_is); (case k13 => k_is); (case a18 => k_is)
    (case l18 => k_is); (case c18 => k_is); (case k18 => k_is); (case a2 => k_is); (case l2 => k_is); (case c2 => k_is)
    (case k2 => k_is); (case a21 => k_is); (case l21 => k_is); (case c21 => k_is); (case k21 => k_is); (case a24 => k_is)
    (case l24 => k_is); (case c24 => k_is); (case k24 => k_is); (case a38 => k_is); (case l38 => k_is); (case c38 => k_is)
    (case k38 => k_is); (case a35 => k_is); (case l35 => k_is); (case c35 => k_is); (case k35 => k_is); (case a36 => k_is)
    (case l36 => k_is); (case c36 => k_is); (case k36 => k_is); (case a37 => k_is); (case l37 => k_is); (case c37 => k_is)
    (case k37 => k_is); (case a39 => k_is); (case l39 => k_is); (case c39 => k_is); (case k39 => k_is); (case a45 => k_is)
    (case l45 => k_is); (case c45 => k_is); (case k45 => k_is); (case a40 => k_is); (case l40 => k_is); (case c40 => k_is)
    (case k40 => k_is); (case a41 => k_is); (case l41 => k_is); (case c41 => k_is); (case k41 => k_is); (case a47 => k_is)
    (case l47 => k_is); (case c47 => k_is); (case k47 => k_is); (case a44 => k_is); (case l44 => k_is); (case c44 => k_is)
    (case k44 => k_is); (case a48 => k_is); (case l48 => k_is); (case c48 => k_is); (case k48 => k_is); (case z_abs => k_is)
    (case z_bool => k_is); (case z_dict => k_is); (case z_int => k_is); (case z_isinstance => k_is); (case z_len => k_is); (case z_list => k_is)
    (case z_max => k_is); (case z_min => k_is); (case z_range => k_is); (case z_sorted => k_is); (case z_tuple => k_is); (case z_zip => k_is)


