import PyProof.Rows.All
import Wide.All
import OpenK.AllK
import Wide.FinOn
import HandS.Base
import HandS.Call
import HandS.List
import HandS.Comp
import HandS.Iter
import HandS.Exc
import HandS.Words
import HandS.WordsExc
import HandS.IsInst
import HandS.Deep
import HandS.Wide
import HandS.TupAny
import HandS.Star
import HandS.Dict
import HandS.Zip
import HandS.Conv
import HandS.Defaults
import HandS.ExcIs
import KE.KExcIs
import HandS.Codes
import HandS.Small
import KE.SortData
import HandS.TupSets
import HandS.SetFor
import HandS.Set
import HandS.Strs
import KE.KDictPairs
import HandS.Ends
import HandS.EndBits
import KE.KSuperObj
import KE.KExcSuper
import KE.KParC
import HandS.ExcInit
import HandS.Nested
import HandS.ExcValue
import HandS.ExcField
import HandS.MakeKw
import PyProof.ReprRoads
import HandS.HeadHook2
import HandS.HeadEnd
import KE.KStateDown
import Lean
import HandS.Head0
import HandS.Head1
import HandS.Head2
import PySem.Challenge.RW_flatrooms_k00_errors_of_all_parts
set_option Elab.async false
set_option linter.all false
set_option maxRecDepth 100000
set_option maxHeartbeats 0
/-! Mn1: data as trees, outcomes, the operators upon them: a small functional semantics of the fragment. -/
namespace Mn
open PySem

/-- data as trees: what a Python value is, without addresses -/
inductive D where
  | non | bl (b : Bool) | int (i : Int) | str (x : Str)
  | lst (ds : List D) | tup (ds : List D)
  /-- a dict with number and text keys; one with keys that are tuples of these -/
  | dK (kvs : List (L2.Key × D)) | dT (kvs : List (List L2.Key × D))
  | ins (c : Nat) (ds : List D)
  | exc (c : Nat) (ds : List D)
  | clo | drw
  /-- the script -/
  | scr (ns : List Int)
instance : Inhabited D := ⟨.non⟩

/-- a slot: not bound, a value that stands still, a fresh list (or dict) that only this slot holds -/
inductive Sl where
  | un | val (d : D) | own (d : D)
abbrev Env := List Sl

/-- the state of the draws -/
structure DS where
  large : List Int
  rest : Int
  cells : List Int
  turn : Int

inductive Res (α : Type) where
  | ok (a : α) (s : DS)
  | err (k : Nat) (ds : List D) (s : DS)
  | bad

def M (α : Type) : Type := DS → Res α
def M.ret {α : Type} (a : α) : M α := fun s => .ok a s
def M.bnd {α β : Type} (m : M α) (f : α → M β) : M β := fun s => match m s with
  | .ok a s' => f a s'
  | .err k ds s' => .err k ds s'
  | .bad => .bad
instance : Monad M where
  pure := M.ret
  bind := M.bnd
def bad {α : Type} : M α := fun _ => .bad
def raise {α : Type} (k : Nat) (ds : List D) : M α := fun s => .err k ds s
def lift {α : Type} : Option α → M α
  | some a => fun s => .ok a s
  | none => fun _ => .bad
@[simp] theorem bnd_ret {α β : Type} (a : α) (f : α → M β) : (M.ret a).bnd f = f a := rfl
@[simp] theorem pure_is {α : Type} (a : α) : (pure a : M α) = M.ret a := rfl
@[simp] theorem bind_is {α β : Type} (m : M α) (f : α → M β) : (m >>= f) = m.bnd f := rfl
@[simp] theorem ret_at {α : Type} (a : α) (s : DS) : M.ret a s = .ok a s := rfl
theorem bnd_at {α β : Type} (m : M α) (f : α → M β) (s : DS) : m.bnd f s = match m s with
  | .ok a s' => f a s'
  | .err k ds s' => .err k ds s'
  | .bad => .bad := rfl
theorem bnd_ok {α β : Type} {m : M α} {f : α → M β} {s s' : DS} {a : α} (h : m s = .ok a s') : m.bnd f s = f a s' := by
  rw [bnd_at, h]

theorem bnd_err {α β : Type} {m : M α} {f : α → M β} {s s' : DS} {k : Nat} {ds : List D} (h : m s = .err k ds s') : m.bnd f s = .err k ds s' := by
  rw [bnd_at, h]
theorem bnd_bad {α β : Type} {m : M α} {f : α → M β} {s : DS} (h : m s = .bad) : m.bnd f s = .bad := by
  rw [bnd_at, h]

abbrev EvF := Env → M D

/-! ### equality -/
mutual
def toPy : D → Option PyData
  | .non => some .none
  | .bl b => some (.bool b)
  | .int i => some (.int i)
  | .str x => if PyData.strOk x then some (.str x) else none
  | .lst ds => match toPys ds with
    | some ps => some (.list ps)
    | none => none
  | .tup ds => match toPys ds with
    | some ps => some (.tuple ps)
    | none => none
  | .dK _ => none
  | .dT _ => none
  | .ins _ _ => none
  | .exc _ _ => none
  | .clo => none
  | .drw => none
  | .scr _ => none
def toPys : List D → Option (List PyData)
  | [] => some []
  | d :: r => match toPy d with
    | some p => match toPys r with
      | some ps => some (p :: ps)
      | none => none
    | none => none
end
def pyOf (d : D) : Option PyData := match toPy d with
  | some p => if p.depth ≤ 60 then some p else none
  | none => none
def eqO (a b : D) : Option Bool := match pyOf a, pyOf b with
  | some p, some q => some (PyData.eqv p q)
  | _, _ => none
def anyEq (x : D) : List D → Option Bool
  | [] => some false
  | y :: r => match eqO y x with
    | some true => some true
    | some false => anyEq x r
    | none => none
/-- the length's line -/
def line : Nat := 16777216

/-- what may be held by one place alone -/
def isSeq : D → Bool
  | .lst _ => true
  | .dK _ => true
  | .dT _ => true
  | _ => false

/-! ### keys -/
def keyD : D → Option L2.Key
  | .int i => some (.inl i)
  | .str x => some (.inr x)
  | _ => none
def keysD : List D → Option (List L2.Key)
  | [] => some []
  | d :: r => match keyD d with
    | some k => match keysD r with
      | some ks => some (k :: ks)
      | none => none
    | none => none
def kD : L2.Key → D
  | .inl i => .int i
  | .inr x => .str x
def findK {κ : Type} [DecidableEq κ] (k : κ) : List (κ × D) → Option D
  | [] => none
  | p :: r => if p.1 = k then some p.2 else findK k r
def putD {κ : Type} [DecidableEq κ] (kvs : List (κ × D)) (k : κ) (v : D) : List (κ × D) :=
  if (kvs.any fun kv => decide (kv.1 = k)) then kvs.map fun kv => if kv.1 = k then (kv.1, v) else kv else kvs ++ [(k, v)]

/-! ### operators -/
def mulOk (i j : Int) : Bool := i.natAbs.log2 + j.natAbs.log2 < 1000000
def addD : D → D → Option D
  | .int i, .int j => some (.int (i + j))
  | .lst a, .lst b => if a.length + b.length ≤ line then some (.lst (a ++ b)) else none
  | .tup a, .tup b => if a.length + b.length ≤ line then some (.tup (a ++ b)) else none
  | _, _ => none
def subD : D → D → Option D
  | .int i, .int j => some (.int (i - j))
  | _, _ => none
def mulD : D → D → Option D
  | .int i, .int j => if mulOk i j then some (.int (i * j)) else none
  | .lst a, .int k => if k < 2 ^ 62 ∧ -(2 ^ 62) < k ∧ a.length * k.toNat ≤ line then some (.lst (List.replicate k.toNat a).flatten) else none
  | _, _ => none
def modD : D → D → Option D
  | .int i, .int j => if j = 0 then none else some (.int (i.fmod j))
  | _, _ => none
def fdivD : D → D → Option D
  | .int i, .int j => if 0 < j ∧ j.natAbs.log2 < 9000 then some (.int (i / j)) else if j ≠ 0 ∧ j.natAbs < 1073741824 then some (.int (i.fdiv j)) else none
  | _, _ => none
def powD : D → D → Option D
  | .int i, .int j => if 0 ≤ j ∧ j ≤ 1000 ∧ i.natAbs < 2 ^ 64 then some (.int (i ^ j.toNat)) else none
  | _, _ => none
inductive BOp where | add | sub | mul | mod | fdiv | pow
def BOp.run : BOp → D → D → Option D
  | .add => addD | .sub => subD | .mul => mulD | .mod => modD | .fdiv => fdivD | .pow => powD
inductive COp where | eq | ne | lt | le | gt | ge | isIn | notIn
def inD (x : D) : D → Option Bool
  | .lst ys => match pyOf x, pyOf (.lst ys) with
    | some _, some _ => anyEq x ys
    | _, _ => none
  | .tup ys => match pyOf x, pyOf (.tup ys) with
    | some _, some _ => anyEq x ys
    | _, _ => none
  | .dK kvs => match keyD x with
    | some k => some (kvs.any fun p => decide (p.1 = k))
    | none => none
  | .dT kvs => match x with
    | .tup ds => match keysD ds with
      | some k => some (kvs.any fun p => decide (p.1 = k))
      | none => none
    | _ => none
  | _ => none
def cmpI (f : Int → Int → Bool) : D → D → Option Bool
  | .int i, .int j => some (f i j)
  | _, _ => none
def COp.run : COp → D → D → Option Bool
  | .eq => eqO
  | .ne => fun a b => (eqO a b).map (!·)
  | .lt => cmpI fun i j => decide (i < j)
  | .le => cmpI fun i j => decide (i ≤ j)
  | .gt => cmpI fun i j => decide (j < i)
  | .ge => cmpI fun i j => decide (j ≤ i)
  | .isIn => fun a b => inD a b
  | .notIn => fun a b => (inD a b).map (!·)

/-! ### subscripts -/
def idxD : D → D → Option D
  | .lst ds, .int i => L2.atI ds i
  | .tup ds, .int i => L2.atI ds i
  | .dK kvs, k => (keyD k).bind fun k => findK k kvs
  | .dT kvs, .tup ds => (keysD ds).bind fun k => findK k kvs
  | _, _ => none
def cutL {α : Type} (xs : List α) (lo hi : Option Int) : List α := (xs.drop (HT.sIx xs.length 0 lo)).take (HT.sIx xs.length xs.length hi - HT.sIx xs.length 0 lo)
def cutD (d : D) (lo hi : Option Int) : Option D := match d with
  | .lst ds => some (.lst (cutL ds lo hi))
  | .tup ds => some (.tup (cutL ds lo hi))
  | _ => none

/-! ### what is asked of lists -/
def itemsD : D → Option (List D)
  | .lst ds => some ds
  | .tup ds => some ds
  | _ => none
def intsD : List D → Option (List Int)
  | [] => some []
  | .int i :: r => match intsD r with
    | some is => some (i :: is)
    | none => none
  | _ :: _ => none
def bools : List D → Option (List Bool)
  | [] => some []
  | .bl b :: r => match bools r with
    | some bs => some (b :: bs)
    | none => none
  | _ :: _ => none
def lenD : D → Option D
  | .lst ds => some (.int ds.length)
  | .tup ds => some (.int ds.length)
  | .dK kvs => some (.int kvs.length)
  | .scr ns => some (.int ns.length)
  | _ => none
def rangeD (lo hi : Int) : List D := (List.range (hi - lo).toNat).map fun (i : Nat) => .int (lo + (i : Int))
def maxI : List Int → Option Int
  | [] => none
  | a :: r => some (r.foldl (fun m x => if x > m then x else m) a)
def minI : List Int → Option Int
  | [] => none
  | a :: r => some (r.foldl (fun m x => if x < m then x else m) a)
end Mn

/-! Mn2: how data stand in the abstract heap; the readings of expressions by the small semantics. -/
namespace Mn
open PySem PySem.Spec PyProof.Rows L2

/-- what stands still through the law: the written part, the draws' objects, the classes by number -/
structure Cfg where
  K : PySem.W.Frag
  dr : Option (Addr × Addr × Addr)
  cls : Nat → Option (Addr × List Str)
  clo : V → Prop

mutual
inductive Rep (c : Cfg) (F : Hp) : V → D → Prop
  | non : Rep c F .non .non
  | bl (b : Bool) : Rep c F (.bl b) (.bl b)
  | int (i : Int) : Rep c F (.int i) (.int i)
  | str (x : Str) : Rep c F (.str x) (.str x)
  | lst {a : Addr} {xs : List V} {ds : List D} : F a = some (.lst xs) → Reps c F xs ds → Rep c F (.ref a) (.lst ds)
  | tup {a : Addr} {xs : List V} {ds : List D} : F a = some (.tup xs) → Reps c F xs ds → Rep c F (.ref a) (.tup ds)
  | dK {a : Addr} {kvs : List (Key × V)} {es : List (Key × D)} : F a = some (.dK kvs) → kvs.map (·.1) = es.map (·.1) → Reps c F (kvs.map (·.2)) (es.map (·.2)) → Rep c F (.ref a) (.dK es)
  | dT {a : Addr} {kvs : List (List Key × V)} {es : List (List Key × D)} : F a = some (.dT kvs) → kvs.map (·.1) = es.map (·.1) → Reps c F (kvs.map (·.2)) (es.map (·.2)) → Rep c F (.ref a) (.dT es)
  | ins {a C dx : Addr} {k : Nat} {fs : List (Str × V)} {ds : List D} : F a = some (.ins C dx fs) → c.cls k = some (C, fs.map (·.1)) → Reps c F (fs.map (·.2)) ds → Rep c F (.ref a) (.ins k ds)
  | exc {a C : Addr} {k : Nat} {fs : List (Str × V)} {ds : List D} {d : Option Addr} {φ : Heap → Prop} : F a = some (.ext φ) → (∀ h, φ h → ∃ oe, h.get? a = some oe ∧ Zc (.ref C) d oe ∧ ∃ vs, oe.data = .fields vs) → c.cls k = some (C, fs.map (·.1)) →
      ((fs = [] ∧ d = none) ∨ ∃ dd, d = some dd ∧ F dd = some (.xd fs)) → Reps c F (fs.map (·.2)) ds → Rep c F (.ref a) (.exc k ds)
  | clo {v : V} : c.clo v → Rep c F v .clo
  | drw {d l e : Addr} : c.dr = some (d, l, e) → Rep c F (.ref d) .drw
  | scr {a : Addr} {ns : List Int} : SqL c.K F a (ns.map V.int) → Rep c F (.ref a) (.scr ns)
inductive Reps (c : Cfg) (F : Hp) : List V → List D → Prop
  | nil : Reps c F [] []
  | cons {v : V} {vs : List V} {d : D} {ds : List D} : Rep c F v d → Reps c F vs ds → Reps c F (v :: vs) (d :: ds)
end

theorem same_seqL {K : PySem.W.Frag} {H H' : Hp} {a : Addr} {xs : List V} (e : Same H H') (h : SqL K H a xs) : SqL K H' a xs := e.seq h
theorem same_seqT {K : PySem.W.Frag} {H H' : Hp} {a : Addr} {xs : List V} (e : Same H H') (h : SqT K H a xs) : SqT K H' a xs := by
  rcases h with (h | ⟨o, h⟩) | h
  · exact .inl (.inl (e _ _ h))
  · exact .inl (.inr ⟨o, e _ _ h⟩)
  · exact .inr h
section
variable {c : Cfg} {F F' : Hp}
mutual
theorem Rep.mono (e : Same F F') : ∀ {v : V} {d : D}, Rep c F v d → Rep c F' v d
  | _, _, .non => .non
  | _, _, .bl b => .bl b
  | _, _, .int i => .int i
  | _, _, .str x => .str x
  | _, _, .lst h r => .lst (e _ _ h) (Reps.mono e r)
  | _, _, .tup h r => .tup (e _ _ h) (Reps.mono e r)
  | _, _, .dK h hk r => .dK (e _ _ h) hk (Reps.mono e r)
  | _, _, .dT h hk r => .dT (e _ _ h) hk (Reps.mono e r)
  | _, _, .ins h hc r => .ins (e _ _ h) hc (Reps.mono e r)
  | _, _, .exc h hφ hc hd r => .exc (e _ _ h) hφ hc (hd.imp id fun ⟨dd, h1, h2⟩ => ⟨dd, h1, e _ _ h2⟩) (Reps.mono e r)
  | _, _, .clo h => .clo h
  | _, _, .drw h => .drw h
  | _, _, .scr h => .scr (same_seqL e h)
theorem Reps.mono (e : Same F F') : ∀ {vs : List V} {ds : List D}, Reps c F vs ds → Reps c F' vs ds
  | _, _, .nil => .nil
  | _, _, .cons h r => .cons (Rep.mono e h) (Reps.mono e r)
end
theorem Reps.length : ∀ {vs : List V} {ds : List D}, Reps c F vs ds → vs.length = ds.length
  | _, _, .nil => rfl
  | _, _, .cons _ r => congrArg (· + 1) (Reps.length r)
theorem Reps.get : ∀ {vs : List V} {ds : List D} {i : Nat} {v : V}, Reps c F vs ds → vs[i]? = some v → ∃ d, ds[i]? = some d ∧ Rep c F v d
  | _, _, _, _, .nil, e => by simp at e
  | _, _, 0, _, .cons h _, e => by simp at e; subst e; exact ⟨_, rfl, h⟩
  | _, _, i + 1, v, .cons _ r, e => by
    obtain ⟨d, h1, h2⟩ := Reps.get (i := i) (v := v) r (by simpa using e)
    exact ⟨d, by simpa using h1, h2⟩
theorem Reps.at : ∀ {vs : List V} {ds : List D} {i : Nat} {d : D}, Reps c F vs ds → ds[i]? = some d → ∃ v, vs[i]? = some v ∧ Rep c F v d
  | _, _, _, _, .nil, e => by simp at e
  | _, _, 0, _, .cons h _, e => by simp at e; subst e; exact ⟨_, rfl, h⟩
  | _, _, i + 1, d, .cons _ r, e => by
    obtain ⟨v, h1, h2⟩ := Reps.at (i := i) (d := d) r (by simpa using e)
    exact ⟨v, by simpa using h1, h2⟩
theorem Reps.append : ∀ {vs vs' : List V} {ds ds' : List D}, Reps c F vs ds → Reps c F vs' ds' → Reps c F (vs ++ vs') (ds ++ ds')
  | _, _, _, _, .nil, s => s
  | _, _, _, _, .cons h r, s => .cons h (Reps.append r s)
theorem Reps.take : ∀ {vs : List V} {ds : List D} (n : Nat), Reps c F vs ds → Reps c F (vs.take n) (ds.take n)
  | _, _, 0, _ => .nil
  | _, _, _ + 1, .nil => .nil
  | _, _, n + 1, .cons h r => .cons h (Reps.take n r)
theorem Reps.drop : ∀ {vs : List V} {ds : List D} (n : Nat), Reps c F vs ds → Reps c F (vs.drop n) (ds.drop n)
  | _, _, 0, r => r
  | _, _, _ + 1, .nil => .nil
  | _, _, n + 1, .cons _ r => Reps.drop n r
theorem Reps.set {v : V} {d : D} (h : Rep c F v d) : ∀ {vs : List V} {ds : List D} (i : Nat), Reps c F vs ds → Reps c F (vs.set i v) (ds.set i d)
  | _, _, _, .nil => .nil
  | _, _, 0, .cons _ r => .cons h r
  | _, _, i + 1, .cons q r => .cons q (Reps.set h i r)
theorem Reps.erase : ∀ {vs : List V} {ds : List D} (i : Nat), Reps c F vs ds → Reps c F (vs.eraseIdx i) (ds.eraseIdx i)
  | _, _, _, .nil => .nil
  | _, _, 0, .cons _ r => r
  | _, _, i + 1, .cons q r => .cons q (Reps.erase i r)
theorem Reps.rep {vs : List V} {ds : List D} (r : Reps c F vs ds) : ∀ n : Nat, Reps c F (List.replicate n vs).flatten (List.replicate n ds).flatten
  | 0 => .nil
  | n + 1 => by
    rw [List.replicate_succ, List.replicate_succ, List.flatten_cons, List.flatten_cons]
    exact r.append (Reps.rep r n)
theorem Reps.ints : ∀ {vs : List V} {is : List Int} {ds : List D}, Reps c F vs ds → intsD ds = some is → vs = is.map V.int
  | _, _, _, .nil, e => by cases e; rfl
  | _, is, _, .cons h r, e => by
    cases h with
    | int i =>
      simp only [intsD] at e
      split at e
      · rename_i js hj
        cases e
        rw [Reps.ints r hj]
        rfl
      · cases e
    | _ => simp [intsD] at e
theorem Reps.bls : ∀ {vs : List V} {bs : List Bool} {ds : List D}, Reps c F vs ds → bools ds = some bs → vs = bs.map V.bl
  | _, _, _, .nil, e => by cases e; rfl
  | _, bs, _, .cons h r, e => by
    cases h with
    | bl i =>
      simp only [bools] at e
      split at e
      · rename_i js hj
        cases e
        rw [Reps.bls r hj]
        rfl
      · cases e
    | _ => simp [bools] at e
theorem Reps.ofInts : ∀ is : List Int, Reps c F (is.map V.int) (is.map D.int)
  | [] => .nil
  | i :: r => .cons (.int i) (Reps.ofInts r)
end

/-! ### the state -/
/-- the draws' objects that a draw changes -/
def isDr (c : Cfg) (a : Addr) : Prop := match c.dr with
  | none => False
  | some (d, l, _) => a = d ∨ a = l
/-- the cells stand still: they are known -/
def CellOk (c : Cfg) (F : Hp) (s : DS) : Prop := match c.dr with
  | none => True
  | some (_, _, e) => F e = some (.lst (s.cells.map V.int))
def DrawOk (c : Cfg) (H : Hp) (s : DS) : Prop := match c.dr with
  | none => True
  | some (d, l, e) => H d = some (.dK [(.inr "large", .ref l), (.inr "rest", .int s.rest), (.inr "cells", .ref e), (.inr "turn", .int s.turn)]) ∧ H l = some (.lst (s.large.map V.int))
structure Wf (c : Cfg) (H F : Hp) (s : DS) : Prop where
  sub : Same F H
  dr : DrawOk c H s
  drF : ∀ a, isDr c a → F a = none
  cel : CellOk c F s
/-- from (H, F) on to (H', F'): what stood stands (but for the draws), what was known is known, new known things are new -/
structure Next (c : Cfg) (H F H' F' : Hp) (s' : DS) : Prop where
  wf : Wf c H' F' s'
  leF : Same F F'
  keep : ∀ a o, H a = some o → ¬ isDr c a → H' a = some o
  new : ∀ a o, F' a = some o → F a = some o ∨ H a = none
section
variable {c : Cfg} {H F H' F' H2 F2 : Hp} {s s' s2 : DS}
theorem Next.refl (w : Wf c H F s) : Next c H F H F s := ⟨w, Same.refl _, fun _ _ h _ => h, fun _ _ h => .inl h⟩
theorem Next.trans (a : Next c H F H' F' s') (b : Next c H' F' H2 F2 s2) : Next c H F H2 F2 s2 where
  wf := b.wf
  leF := a.leF.trans b.leF
  keep := fun x o h n => b.keep x o (a.keep x o h n) n
  new := fun x o h => by
    rcases b.new x o h with h' | h'
    · exact a.new x o h'
    · cases q : H x with
      | none => exact .inr rfl
      | some u =>
        by_cases d : isDr c x
        · have e := b.wf.drF x d
          rw [h] at e
          cases e
        · rw [a.keep x u q d] at h'
          cases h'
/-- something new is tracked, not known -/
theorem Wf.laid {p : Addr} {o : HO} (w : Wf c H F s) (hp : H p = none) : Wf c (upd H p o) F s where
  sub := fun a u h => by
    rw [upd_ne (ne_of_none (w.sub _ _ h) hp)]
    exact w.sub _ _ h
  dr := by
    have d := w.dr
    unfold DrawOk at d ⊢
    split
    · trivial
    · rename_i x l e hd
      rw [hd] at d
      obtain ⟨h1, h2⟩ := d
      refine ⟨?_, ?_⟩
      · rw [upd_ne (ne_of_none h1 hp)]; exact h1
      · rw [upd_ne (ne_of_none h2 hp)]; exact h2
  drF := w.drF
  cel := w.cel
theorem Next.laid {p : Addr} {o : HO} (w : Wf c H F s) (hp : H p = none) : Next c H F (upd H p o) F s :=
  ⟨w.laid hp, Same.refl _, fun a u h _ => by rw [upd_ne (ne_of_none h hp)]; exact h, fun _ _ h => .inl h⟩
/-- the draws' objects stand -/
theorem Wf.notDr {p : Addr} (w : Wf c H F s) (hp : H p = none) : ¬ isDr c p := fun d => by
  have e := w.dr
  unfold DrawOk at e
  unfold isDr at d
  split at d
  · exact d
  · rename_i x l e' hd
    rw [hd] at e
    obtain ⟨h1, h2⟩ := e
    rcases d with rfl | rfl
    · rw [h1] at hp; cases hp
    · rw [h2] at hp; cases hp
/-- what one place alone holds is written -/
theorem Wf.write {p : Addr} {o : HO} (w : Wf c H F s) (hF : F p = none) (hn : ¬ isDr c p) : Wf c (upd H p o) F s where
  sub := fun a u h => by
    rw [upd_ne (fun e => by rw [e, hF] at h; cases h)]
    exact w.sub _ _ h
  dr := by
    have d := w.dr
    unfold DrawOk at d ⊢
    unfold isDr at hn
    split
    · trivial
    · rename_i x l e hd
      rw [hd] at d hn
      obtain ⟨h1, h2⟩ := d
      simp only [not_or] at hn
      obtain ⟨n1, n2⟩ := hn
      refine ⟨?_, ?_⟩
      · rw [upd_ne (Ne.symm n1)]; exact h1
      · rw [upd_ne (Ne.symm n2)]; exact h2
  drF := w.drF
  cel := w.cel
/-- what is tracked becomes known -/
theorem Wf.known {p : Addr} {o : HO} (w : Wf c H F s) (hp : H p = some o) (hn : ¬ isDr c p) : Wf c H (upd F p o) s where
  sub := fun a u h => by
    by_cases e : a = p
    · subst e; rw [upd_same] at h; cases h; exact hp
    · rw [upd_ne e] at h; exact w.sub _ _ h
  dr := w.dr
  drF := fun a d => by
    have ne : a ≠ p := fun e => hn (by rw [← e]; exact d)
    rw [upd_ne ne]
    exact w.drF a d
  cel := by
    have q := w.cel
    unfold CellOk at q ⊢
    split
    · trivial
    · rename_i x l e hd
      rw [hd] at q
      by_cases z : e = p
      · subst z
        have h1 := w.sub _ _ q
        rw [hp] at h1; cases h1
        exact upd_same
      · rw [upd_ne z]; exact q
theorem same_upd {F : Hp} {p : Addr} {o : HO} (h : F p = none ∨ F p = some o) : Same F (upd F p o) := fun b x e => by
  by_cases q : b = p
  · subst q
    rcases h with h | h
    · rw [h] at e; cases e
    · rw [upd_same, ← h]; exact e
  · rw [upd_ne q]; exact e
/-- .. and known -/
theorem Next.laidK {p : Addr} {o : HO} (w : Wf c H F s) (hp : H p = none) : Next c H F (upd H p o) (upd F p o) s := by
  have hF : F p = none := by
    cases e : F p with
    | none => rfl
    | some u => rw [w.sub _ _ e] at hp; cases hp
  refine ⟨(w.laid hp).known upd_same (w.notDr hp), same_upd (.inl hF), fun a u h _ => by rw [upd_ne (ne_of_none h hp)]; exact h, fun a u h => ?_⟩
  by_cases e : a = p
  · subst e; exact .inr hp
  · rw [upd_ne e] at h; exact .inl h
theorem Next.know {p : Addr} {o : HO} (n : Next c H F H' F' s') (h0 : H p = none) (hp : H' p = some o) (hF : F' p = none ∨ F' p = some o) (hn : ¬ isDr c p) : Next c H F H' (upd F' p o) s' :=
  ⟨n.wf.known hp hn, n.leF.trans (same_upd hF), n.keep, fun a u h => by
    by_cases e : a = p
    · subst e; exact .inr h0
    · rw [upd_ne e] at h; exact n.new a u h⟩
end

/-- a list (or dict) that one place alone holds: tracked, not known -/
def OwnAt (c : Cfg) (F : Hp) (o : Option HO) : D → Prop
  | .lst ds => ∃ xs, o = some (.lst xs) ∧ Reps c F xs ds
  | .dK es => ∃ kvs, o = some (.dK kvs) ∧ kvs.map (·.1) = es.map (·.1) ∧ Reps c F (kvs.map (·.2)) (es.map (·.2))
  | .dT es => ∃ kvs, o = some (.dT kvs) ∧ kvs.map (·.1) = es.map (·.1) ∧ Reps c F (kvs.map (·.2)) (es.map (·.2))
  | _ => False
def Own (c : Cfg) (F H : Hp) (v : V) (d : D) : Prop := ∃ p, v = .ref p ∧ F p = none ∧ ¬ isDr c p ∧ OwnAt c F (H p) d
inductive Kd | val | own | bor
def RepK (c : Cfg) (κ : Kd) (H0 F H : Hp) (v : V) (d : D) : Prop := match κ with
  | .val => Rep c F v d
  | .own => (isSeq d = false ∧ Rep c F v d) ∨ ∃ p, v = .ref p ∧ H0 p = none ∧ F p = none ∧ ¬ isDr c p ∧ OwnAt c F (H p) d
  | .bor => Rep c F v d ∨ Own c F H v d
def SlotOk (c : Cfg) (F H : Hp) (o : Option V) : Sl → Prop
  | .un => True
  | .val d => ∃ v, o = some v ∧ Rep c F v d
  | .own d => ∃ v, o = some v ∧ Own c F H v d
def Slots (c : Cfg) (F H : Hp) (σ : L2.St) (ρ : Env) : Prop := σ.length = ρ.length ∧ ∀ (i : Nat) (o : Option V) (sl : Sl), σ[i]? = some o → ρ[i]? = some sl → SlotOk c F H o sl
structure Sim (c : Cfg) (σ : L2.St) (H F : Hp) (ρ : Env) (s : DS) : Prop where
  wf : Wf c H F s
  sl : Slots c F H σ ρ
def ErrRep (c : Cfg) (F : Hp) (cls : Value) (dd : Option Addr) (k : Nat) (ds : List D) : Prop :=
  ∃ (C : Addr) (fs : List (Str × V)), c.cls k = some (C, fs.map (·.1)) ∧ cls = .ref C ∧ ((fs = [] ∧ dd = none) ∨ ∃ d, dd = some d ∧ F d = some (.xd fs)) ∧ Reps c F (fs.map (·.2)) ds
def Post (c : Cfg) (E : XK) (κ : Kd) (H F : Hp) (Q : VK) : Res D → Prop
  | .ok d s' => ∀ v H' F', Next c H F H' F' s' → RepK c κ H F' H' v d → Q v H'
  | .err k ds s' => ∀ cls dd H' F', Next c H F H' F' s' → ErrRep c F' cls dd k ds → E cls dd H'
  | .bad => False
/-- the reading of an expression that means f -/
def tK (c : Cfg) (E : XK) (κ : Kd) (f : EvF) : TE := fun σ H Q => ∃ F ρ s, Sim c σ H F ρ s ∧ Post c E κ H F Q (f ρ s)

section
variable {c : Cfg} {H F H' F' H2 F2 H0 : Hp} {s s' s2 : DS} {σ : L2.St} {ρ : Env} {E : XK} {κ κ' : Kd} {Q Q' : VK} {v : V} {d : D} {X : Cx} {e : Expr}
theorem OwnAt.mono (e : Same F F') {o : Option HO} (h : OwnAt c F o d) : OwnAt c F' o d := by
  cases d with
  | lst ds => obtain ⟨xs, h1, h2⟩ := h; exact ⟨xs, h1, h2.mono e⟩
  | dK es => obtain ⟨kvs, h1, h2, h3⟩ := h; exact ⟨kvs, h1, h2, h3.mono e⟩
  | dT es => obtain ⟨kvs, h1, h2, h3⟩ := h; exact ⟨kvs, h1, h2, h3.mono e⟩
  | _ => exact h
theorem OwnAt.some {o : Option HO} (h : OwnAt c F o d) : ∃ u, o = some u := by
  cases d with
  | lst ds => obtain ⟨xs, h1, h2⟩ := h; exact ⟨_, h1⟩
  | dK es => obtain ⟨kvs, h1, h2, h3⟩ := h; exact ⟨_, h1⟩
  | dT es => obtain ⟨kvs, h1, h2, h3⟩ := h; exact ⟨_, h1⟩
  | _ => exact h.elim
theorem Own.next (n : Next c H F H' F' s') (h : Own c F H v d) : Own c F' H' v d := by
  obtain ⟨p, rfl, h1, h2, h3⟩ := h
  obtain ⟨u, hu⟩ := h3.some
  refine ⟨p, rfl, ?_, h2, ?_⟩
  · cases q : F' p with
    | none => rfl
    | some o =>
      rcases n.new p o q with z | z
      · rw [h1] at z; cases z
      · rw [hu] at z; cases z
  · rw [n.keep p u hu h2, ← hu]
    exact h3.mono n.leF
theorem RepK.next (n : Next c H F H' F' s') (h : RepK c .bor H0 F H v d) : RepK c .bor H0 F' H' v d :=
  h.imp (fun r => r.mono n.leF) fun o => o.next n
theorem SlotOk.next (n : Next c H F H' F' s') {o : Option V} {sl : Sl} (h : SlotOk c F H o sl) : SlotOk c F' H' o sl := by
  cases sl with
  | un => trivial
  | val d => obtain ⟨v, h1, h2⟩ := h; exact ⟨v, h1, h2.mono n.leF⟩
  | own d => obtain ⟨v, h1, h2⟩ := h; exact ⟨v, h1, h2.next n⟩
theorem Sim.next (n : Next c H F H' F' s') (h : Sim c σ H F ρ s) : Sim c σ H' F' ρ s' :=
  ⟨n.wf, h.sl.1, fun i o sl h1 h2 => (h.sl.2 i o sl h1 h2).next n⟩
theorem RepK.shift (n : Next c H F H' F' s') (h : RepK c κ H' F2 H2 v d) : RepK c κ H F2 H2 v d := by
  cases κ with
  | val => exact h
  | bor => exact h
  | own =>
    rcases h with h | ⟨p, h0, h1, h2, h3, h4⟩
    · exact .inl h
    · refine .inr ⟨p, h0, ?_, h2, h3, h4⟩
      cases q : H p with
      | none => rfl
      | some u => rw [n.keep p u q h3] at h1; cases h1
theorem Post.shift (n : Next c H F H' F' s') {r : Res D} (h : Post c E κ H F Q r) : Post c E κ H' F' Q r := by
  cases r with
  | ok d s2 => exact fun v H2 F2 n2 r => h v H2 F2 (n.trans n2) (r.shift n)
  | err k ds s2 => exact fun cls dd H2 F2 n2 r => h cls dd H2 F2 (n.trans n2) r
  | bad => exact h
theorem Post.mono {r : Res D} (h : Post c E κ H F Q r) (hq : ∀ v H', Q v H' → Q' v H') : Post c E κ H F Q' r := by
  cases r with
  | ok d s2 => exact fun v H2 F2 n2 r => hq _ _ (h v H2 F2 n2 r)
  | err k ds s2 => exact h
  | bad => exact h
/-- one part of an expression, then the rest -/
theorem Post.bnd {m : M D} {g : D → M D} (h : Post c E κ H F Q (m.bnd g s)) :
    Post c E κ' H F (fun v H1 => ∃ d s1 F1, Next c H F H1 F1 s1 ∧ RepK c κ' H F1 H1 v d ∧ Post c E κ H1 F1 Q (g d s1)) (m s) := by
  cases e : m s with
  | ok d s1 =>
    rw [bnd_ok e] at h
    exact fun v H1 F1 n r => ⟨d, s1, F1, n, r, h.shift n⟩
  | err k ds s1 =>
    rw [bnd_err e] at h
    exact h
  | bad =>
    rw [bnd_bad e] at h
    exact h
theorem Post.end {r : Option D} (h : Post c E κ H F Q (lift r s)) : ∃ d, r = some d ∧ ∀ v H' F', Next c H F H' F' s → RepK c κ H F' H' v d → Q v H' := by
  cases r with
  | none => exact h.elim
  | some d => exact ⟨d, rfl, h⟩
theorem _root_.L2.PE.imp {t t' : TE} (h : PE X e t) (i : ∀ σ H Q, t' σ H Q → t σ H Q) : PE X e t' := ⟨fun pins s σ H Q I hq => h.run pins s σ H Q I (i σ H Q hq)⟩
/-- a new list that is handed on becomes known -/
theorem de_val {f : EvF} (h : PE X e (tK c E .own f)) : PE X e (tK c E .val f) := h.imp fun σ H Q ⟨F, ρ, s, sim, p⟩ => ⟨F, ρ, s, sim, by
  cases q : f ρ s with
  | ok d s1 =>
    rw [q] at p
    intro v H1 F1 n r
    rcases r with ⟨_, r⟩ | ⟨x, rfl, h0, h1, h2, h3⟩
    · exact p v H1 F1 n r
    · obtain ⟨u, hu⟩ := h3.some
      refine p (.ref x) H1 (upd F1 x u) (n.know h0 hu (.inl h1) h2) ?_
      have m : Same F1 (upd F1 x u) := same_upd (.inl h1)
      show Rep c (upd F1 x u) (.ref x) d
      have h4 := h3.mono m
      cases d with
      | lst ds =>
        obtain ⟨xs, e1, e2⟩ := h4
        rw [hu] at e1; cases e1
        exact .lst upd_same e2
      | dK es =>
        obtain ⟨kvs, e1, e2, e3⟩ := h4
        rw [hu] at e1; cases e1
        exact .dK upd_same e2 e3
      | dT es =>
        obtain ⟨kvs, e1, e2, e3⟩ := h4
        rw [hu] at e1; cases e1
        exact .dT upd_same e2 e3
      | _ => exact h3.elim
  | err k ds s1 =>
    rw [q] at p
    exact p
  | bad =>
    rw [q] at p
    exact p⟩
theorem de_bor {f : EvF} (h : PE X e (tK c E .own f)) : PE X e (tK c E .bor f) := h.imp fun σ H Q ⟨F, ρ, s, sim, p⟩ => ⟨F, ρ, s, sim, by
  cases q : f ρ s with
  | ok d s1 =>
    rw [q] at p
    intro v H1 F1 n r
    rcases r with ⟨_, r⟩ | ⟨x, rfl, h0, h1, h2, h3⟩
    · exact p v H1 F1 n (.inl r)
    · exact p _ H1 F1 n (.inr ⟨x, rfl, h1, h2, h3⟩)
  | err k ds s1 =>
    rw [q] at p
    exact p
  | bad =>
    rw [q] at p
    exact p⟩
/-- what is known may be borrowed -/
theorem de_up {f : EvF} (h : PE X e (tK c E .val f)) : PE X e (tK c E .bor f) := h.imp fun σ H Q ⟨F, ρ, s, sim, p⟩ => ⟨F, ρ, s, sim, by
  cases q : f ρ s with
  | ok d s1 =>
    rw [q] at p
    intro v H1 F1 n r
    exact p v H1 F1 n (.inl r)
  | err k ds s1 =>
    rw [q] at p
    exact p
  | bad =>
    rw [q] at p
    exact p⟩
end
end Mn

/-! Mn3: operators, comparisons, subscripts, displays, by data. -/
namespace Mn
open PySem PySem.Spec PyProof.Rows L2

section
variable {c : Cfg} {H F H' F' H0 : Hp} {s : DS} {v : V} {d : D} {ds : List D} {κ : Kd} {Q : VK}
theorem up_rep (r : Rep c F v d) (h : isSeq d = false := by rfl) : RepK c κ H0 F H v d := by
  cases κ with
  | val => exact r
  | own => exact .inl ⟨h, r⟩
  | bor => exact .inl r
theorem bor_lst (w : Wf c H F s) (r : RepK c .bor H0 F H v (.lst ds)) : ∃ p xs, v = .ref p ∧ H p = some (.lst xs) ∧ Reps c F xs ds := by
  rcases r with r | ⟨p, rfl, _, _, xs, h1, h2⟩
  · cases r with
    | lst h r => exact ⟨_, _, rfl, w.sub _ _ h, r⟩
  · exact ⟨p, xs, rfl, h1, h2⟩
theorem bor_tup (w : Wf c H F s) (r : RepK c .bor H0 F H v (.tup ds)) : ∃ p xs, v = .ref p ∧ H p = some (.tup xs) ∧ Reps c F xs ds := by
  rcases r with r | ⟨p, rfl, _, _, h⟩
  · cases r with
    | tup h r => exact ⟨_, _, rfl, w.sub _ _ h, r⟩
  · exact h.elim
theorem bor_scr (w : Wf c H F s) {ns : List Int} (r : RepK c .bor H0 F H v (.scr ns)) : ∃ p, v = .ref p ∧ SqL c.K H p (ns.map V.int) := by
  rcases r with r | ⟨p, rfl, _, _, h⟩
  · cases r with
    | scr h => exact ⟨_, rfl, same_seqL w.sub h⟩
  · exact h.elim
theorem bor_int {i : Int} (r : RepK c .bor H0 F H v (.int i)) : v = .int i := by
  rcases r with r | ⟨p, _, _, _, h⟩
  · cases r; rfl
  · exact h.elim
theorem bor_bl {i : Bool} (r : RepK c .bor H0 F H v (.bl i)) : v = .bl i := by
  rcases r with r | ⟨p, _, _, _, h⟩
  · cases r; rfl
  · exact h.elim
theorem bor_non (r : RepK c .bor H0 F H v .non) : v = .non := by
  rcases r with r | ⟨p, _, _, _, h⟩
  · cases r; rfl
  · exact h.elim
/-- the way on from here: the same heap, a new list, a new tuple -/
abbrev Cont (c : Cfg) (κ : Kd) (H F : Hp) (s : DS) (d : D) (Q : VK) : Prop := ∀ v H' F', Next c H F H' F' s → RepK c κ H F' H' v d → Q v H'
theorem Cont.same (q : Cont c κ H F s d Q) (w : Wf c H F s) (r : Rep c F v d) (h : isSeq d = false := by rfl) : Q v H := q v H F (Next.refl w) (up_rep r h)
theorem Cont.sameV (q : Cont c .val H F s d Q) (w : Wf c H F s) (r : Rep c F v d) : Q v H := q v H F (Next.refl w) r
theorem free_F (w : Wf c H F s) {p : Addr} (hp : H p = none) : F p = none := by
  cases e : F p with
  | none => rfl
  | some u => rw [w.sub _ _ e] at hp; cases hp
theorem Cont.lst (q : Cont c .own H F s (.lst ds) Q) (w : Wf c H F s) {xs : List V} (r : Reps c F xs ds) {p : Addr} (hp : H p = none) : Q (.ref p) (upd H p (.lst xs)) :=
  q _ _ F (Next.laid w hp) (.inr ⟨p, rfl, hp, free_F w hp, w.notDr hp, xs, upd_same, r⟩)
theorem Cont.tup (q : Cont c κ H F s (.tup ds) Q) (w : Wf c H F s) {xs : List V} (r : Reps c F xs ds) {p : Addr} (hp : H p = none) : Q (.ref p) (upd H p (.tup xs)) := by
  have n : Next c H F (upd H p (.tup xs)) (upd F p (.tup xs)) s := Next.laidK w hp
  exact q _ _ _ n (up_rep (.tup upd_same (r.mono n.leF)))
end

/-! ### two values -/
def rD (c : Cfg) (κ : Kd) (g : D → D → Option D) : R2 := fun x y H Q => ∃ F s d1 d2 d, Wf c H F s ∧ RepK c .bor H F H x d1 ∧ RepK c .bor H F H y d2 ∧ g d1 d2 = some d ∧ Cont c κ H F s d Q
def eBin (g : D → D → Option D) (fa fb : EvF) : EvF := fun ρ => (fa ρ).bnd fun x => (fb ρ).bnd fun y => lift (g x y)
section
variable {X : Cx} {c : Cfg} {E : XK} {κ : Kd} {a b e : Expr} {fa fb : EvF} {pos : Pos} {g : D → D → Option D}
theorem tK_two {σ : L2.St} {H : Hp} {Q : VK} (h : tK c E κ (eBin g fa fb) σ H Q) : tOp (rD c κ g) (tK c E .bor fa) (tK c E .bor fb) σ H Q := by
  obtain ⟨F, ρ, s, sim, p⟩ := h
  refine ⟨F, ρ, s, sim, (Post.bnd (κ' := .bor) p).mono fun x H1 ⟨d1, s1, F1, n1, r1, p1⟩ => ?_⟩
  refine ⟨F1, ρ, s1, sim.next n1, (Post.bnd (κ' := .bor) p1).mono fun y H2 ⟨d2, s2, F2, n2, r2, p2⟩ => ?_⟩
  obtain ⟨d, ed, q⟩ := p2.end
  exact ⟨F2, s2, d1, d2, d, n2.wf, r1.next n2, r2, ed, q⟩
theorem de_op {op : Operator} (ho : OpR X (binaryOp op) (rD c κ g)) (ha : PE X a (tK c E .bor fa)) (hb : PE X b (tK c E .bor fb)) : PE X (.BinOp a op b pos) (tK c E κ (eBin g fa fb)) :=
  (pe_op ho ha hb).imp fun _ _ _ h => tK_two h
end
section
variable {X : Cx} {c : Cfg} (hK : X.K = c.K)
include hK
theorem opD_add : OpR X (binaryOp .Add) (rD c .own addD) := by
  intro pins s σ H x y v u Q I rx ry h
  obtain ⟨F, ds, d1, d2, d, wf, r1, r2, e, q⟩ := h
  unfold addD at e
  split at e
  · cases e
    cases bor_int r1; cases bor_int r2
    exact op_add pins s σ H _ _ v u Q I rx ry ⟨_, _, rfl, rfl, q.same wf (.int _)⟩
  · split at e <;> cases e
    rename_i hz
    obtain ⟨p1, xs, rfl, h1, q1⟩ := bor_lst wf r1
    obtain ⟨p2, ys, rfl, h2, q2⟩ := bor_lst wf r2
    refine op_cat pins s σ H _ _ v u Q I rx ry ⟨_, _, _, _, rfl, rfl, h1, h2, ?_, fun p hp => q.lst wf (q1.append q2) hp⟩
    rw [q1.length, q2.length, sizeLine_eq]; exact hz
  · split at e <;> cases e
    rename_i hz
    obtain ⟨p1, xs, rfl, h1, q1⟩ := bor_tup wf r1
    obtain ⟨p2, ys, rfl, h2, q2⟩ := bor_tup wf r2
    refine op_catA pins s σ H _ _ v u Q I rx ry ⟨_, _, _, _, rfl, rfl, SqT.of h1, SqT.of h2, ?_, fun e => ?_, fun _ e => ?_, fun _ _ p hp => q.tup wf (q1.append q2) hp⟩
    · rw [q1.length, q2.length, sizeLine_eq]; exact hz
    · subst e
      cases q1
      rcases r2 with r2 | ⟨_, _, _, _, z⟩
      · exact q.same wf r2
      · exact z.elim
    · subst e
      cases q2
      rw [List.append_nil] at q
      rcases r1 with r1 | ⟨_, _, _, _, z⟩
      · exact q.same wf r1
      · exact z.elim
  · cases e
omit hK in
theorem opD_sub : OpR X (binaryOp .Sub) (rD c .own subD) := by
  intro pins s σ H x y v u Q I rx ry h
  obtain ⟨F, ds, d1, d2, d, wf, r1, r2, e, q⟩ := h
  unfold subD at e
  split at e
  · cases e
    cases bor_int r1; cases bor_int r2
    exact op_sub pins s σ H _ _ v u Q I rx ry ⟨_, _, rfl, rfl, q.same wf (.int _)⟩
  · cases e
omit hK in
theorem opD_mul : OpR X (binaryOp .Mult) (rD c .own mulD) := by
  intro pins s σ H x y v u Q I rx ry h
  obtain ⟨F, ds, d1, d2, d, wf, r1, r2, e, q⟩ := h
  unfold mulD at e
  split at e
  · split at e <;> cases e
    rename_i hz
    cases bor_int r1; cases bor_int r2
    exact op_mulW pins s σ H _ _ v u Q I rx ry ⟨_, _, rfl, rfl, (by unfold CMulW; unfold mulOk at hz; simpa using hz), q.same wf (.int _)⟩
  · split at e <;> cases e
    rename_i hz
    obtain ⟨p1, xs, rfl, h1, q1⟩ := bor_lst wf r1
    cases bor_int r2
    refine op_rep pins s σ H _ _ v u Q I rx ry ⟨_, _, _, rfl, rfl, h1, by omega, by omega, ?_, fun p hp => q.lst wf (q1.rep _) hp⟩
    rw [q1.length, sizeLine_eq]; exact hz.2.2
  · cases e
omit hK in
theorem opD_mod : OpR X (binaryOp .Mod) (rD c .own modD) := by
  intro pins s σ H x y v u Q I rx ry h
  obtain ⟨F, ds, d1, d2, d, wf, r1, r2, e, q⟩ := h
  unfold modD at e
  split at e
  · split at e <;> cases e
    rename_i hz
    cases bor_int r1; cases bor_int r2
    exact op_modN pins s σ H _ _ v u Q I rx ry ⟨_, _, rfl, rfl, hz, q.same wf (.int _)⟩
  · cases e
omit hK in
theorem opD_fdiv : OpR X (binaryOp .FloorDiv) (rD c .own fdivD) := by
  intro pins s σ H x y v u Q I rx ry h
  obtain ⟨F, ds, d1, d2, d, wf, r1, r2, e, q⟩ := h
  unfold fdivD at e
  split at e
  · cases bor_int r1; cases bor_int r2
    split at e
    · rename_i hz
      cases e
      exact op_fdivW pins s σ H _ _ v u Q I rx ry ⟨_, _, rfl, rfl, hz, q.same wf (.int _)⟩
    · split at e <;> cases e
      rename_i hz
      exact op_fdivN pins s σ H _ _ v u Q I rx ry ⟨_, _, rfl, rfl, hz, q.same wf (.int _)⟩
  · cases e
omit hK in
theorem opD_pow : OpR X (binaryOp .Pow) (rD c .own powD) := by
  intro pins s σ H x y v u Q I rx ry h
  obtain ⟨F, ds, d1, d2, d, wf, r1, r2, e, q⟩ := h
  unfold powD at e
  split at e
  · cases bor_int r1; cases bor_int r2
    split at e <;> cases e
    rename_i hz
    exact op_pow pins s σ H _ _ v u Q I rx ry ⟨_, _, rfl, rfl, ⟨hz.1, by omega, hz.2.2⟩, q.same wf (.int _)⟩
  · cases e
end

/-! ### data, to be compared -/
mutual
theorem dp_of {c : Cfg} {H F : Hp} {K : PySem.W.Frag} (hK : K = c.K) (w : Same F H) : ∀ {v : V} {d : D} {p : PyData}, Rep c F v d → toPy d = some p → Dp K H v p
  | _, _, _, .non, e => by simp only [toPy] at e; cases e; exact .non
  | _, _, _, .bl b, e => by simp only [toPy] at e; cases e; exact .bl b
  | _, _, _, .int i, e => by simp only [toPy] at e; cases e; exact .int i
  | _, _, _, .str x, e => by
    simp only [toPy] at e
    split at e <;> cases e
    exact .str x
  | _, _, _, .lst h r, e => by
    simp only [toPy] at e
    split at e <;> cases e
    rename_i ps hp
    exact .lst (.inl (.inl (w _ _ h))) (dps_of hK w r hp)
  | _, _, _, .tup h r, e => by
    simp only [toPy] at e
    split at e <;> cases e
    rename_i ps hp
    exact .tup (SqT.of (w _ _ h)) (dps_of hK w r hp)
  | _, _, _, .dK .., e => by simp only [toPy] at e; cases e
  | _, _, _, .dT .., e => by simp only [toPy] at e; cases e
  | _, _, _, .ins .., e => by simp only [toPy] at e; cases e
  | _, _, _, .exc .., e => by simp only [toPy] at e; cases e
  | _, _, _, .clo .., e => by simp only [toPy] at e; cases e
  | _, _, _, .drw .., e => by simp only [toPy] at e; cases e
  | _, _, _, .scr .., e => by simp only [toPy] at e; cases e
theorem dps_of {c : Cfg} {H F : Hp} {K : PySem.W.Frag} (hK : K = c.K) (w : Same F H) : ∀ {vs : List V} {ds : List D} {ps : List PyData}, Reps c F vs ds → toPys ds = some ps → DpAll K H vs ps
  | _, _, _, .nil, e => by simp only [toPys] at e; cases e; exact .nil
  | _, _, _, .cons h r, e => by
    simp only [toPys] at e
    split at e
    · rename_i p hp
      split at e <;> cases e
      rename_i ps hps
      exact .cons (dp_of hK w h hp) (dps_of hK w r hps)
    · cases e
end
mutual
theorem canLay_of : ∀ {d : D} {p : PyData}, toPy d = some p → p.canLay0 = true
  | .non, p, e => by simp only [toPy] at e; cases e; simp [PyData.canLay0]
  | .bl b, p, e => by simp only [toPy] at e; cases e; simp [PyData.canLay0]
  | .int i, p, e => by simp only [toPy] at e; cases e; simp [PyData.canLay0]
  | .str x, p, e => by
    simp only [toPy] at e
    split at e <;> cases e
    rename_i h
    simpa [PyData.canLay0] using h
  | .lst ds, p, e => by
    simp only [toPy] at e
    split at e <;> cases e
    rename_i ps hp
    simpa [PyData.canLay0] using canLays_of hp
  | .tup ds, p, e => by
    simp only [toPy] at e
    split at e <;> cases e
    rename_i ps hp
    simpa [PyData.canLay0] using canLays_of hp
  | .dK _, p, e => by simp only [toPy] at e; cases e
  | .dT _, p, e => by simp only [toPy] at e; cases e
  | .ins _ _, p, e => by simp only [toPy] at e; cases e
  | .exc _ _, p, e => by simp only [toPy] at e; cases e
  | .clo, p, e => by simp only [toPy] at e; cases e
  | .drw, p, e => by simp only [toPy] at e; cases e
  | .scr _, p, e => by simp only [toPy] at e; cases e
theorem canLays_of : ∀ {ds : List D} {ps : List PyData}, toPys ds = some ps → PyData.canLayAll0 ps = true
  | [], ps, e => by simp only [toPys] at e; cases e; simp [PyData.canLayAll0]
  | d :: r, ps, e => by
    simp only [toPys] at e
    split at e
    · rename_i p hp
      split at e <;> cases e
      rename_i qs hqs
      simp [PyData.canLayAll0, canLay_of hp, canLays_of hqs]
    · cases e
end
theorem bor_dp {c : Cfg} {H F H0 : Hp} {s : DS} {K : PySem.W.Frag} (hK : K = c.K) (w : Wf c H F s) {v : V} {d : D} {p : PyData} (r : RepK c .bor H0 F H v d) (e : pyOf d = some p) : Dp K H v p ∧ SeqAt.shaped p = true ∧ toPy d = some p := by
  unfold pyOf at e
  split at e
  · rename_i p' hp
    split at e <;> cases e
    rename_i hd
    refine ⟨?_, ?_, hp⟩
    · rcases r with r | ⟨q, rfl, _, _, h⟩
      · exact dp_of hK w.sub r hp
      · cases d with
        | lst ds =>
          obtain ⟨xs, h1, h2⟩ := h
          simp only [toPy] at hp
          split at hp <;> cases hp
          rename_i ps hps
          exact .lst (.inl (.inl h1)) (dps_of hK w.sub h2 hps)
        | dK es => simp only [toPy] at hp; cases hp
        | dT es => simp only [toPy] at hp; cases hp
        | _ => exact h.elim
    · show (p.canLay0 && decide (p.depth ≤ 64)) = true
      rw [Bool.and_eq_true]
      exact ⟨canLay_of hp, decide_eq_true (by omega)⟩
  · cases e
theorem anyEq_py {x : D} {p : PyData} (hx : pyOf x = some p) : ∀ {ys : List D} {qs : List PyData} {b : Bool}, toPys ys = some qs → anyEq x ys = some b → (qs.any fun z => PyData.eqv z p) = b
  | [], qs, b, e, h => by simp only [toPys] at e; cases e; simp only [anyEq] at h; cases h; rfl
  | y :: r, qs, b, e, h => by
    simp only [toPys] at e
    split at e
    · rename_i q hq
      split at e <;> cases e
      rename_i rs hrs
      simp only [anyEq] at h
      have ey : eqO y x = (if q.depth ≤ 60 then some (PyData.eqv q p) else none) := by
        unfold eqO
        rw [hx]
        unfold pyOf
        rw [hq]
        by_cases hd : q.depth ≤ 60
        · simp only [hd, if_true]
        · simp only [hd, if_false]
      rw [ey] at h
      rw [List.any_cons]
      by_cases hd : q.depth ≤ 60
      · rw [if_pos hd] at h
        cases hv : PyData.eqv q p with
        | true => rw [hv] at h; cases h; rfl
        | false =>
          rw [hv] at h
          rw [Bool.false_or]
          exact anyEq_py hx hrs h
      · rw [if_neg hd] at h
        cases h
    · cases e

theorem eqO_some {a b : D} {r : Bool} (h : eqO a b = some r) : ∃ p q, pyOf a = some p ∧ pyOf b = some q ∧ r = PyData.eqv p q := by
  unfold eqO at h
  cases ea : pyOf a with
  | none => rw [ea] at h; cases h
  | some p =>
    cases eb : pyOf b with
    | none => rw [ea, eb] at h; cases h
    | some q => rw [ea, eb] at h; cases h; exact ⟨p, q, rfl, rfl, rfl⟩
section
variable {X : Cx} {c : Cfg} (hK : X.K = c.K)
include hK
theorem opD_eq (hu : X.A.units + 65 < cLine) : OpR X (compareOp .Eq) (rD c .own fun a b => (eqO a b).map D.bl) := by
  intro pins s σ H x y v u Q I rx ry h
  obtain ⟨F, ds, d1, d2, d, wf, r1, r2, e, q⟩ := h
  obtain ⟨b, e1, rfl⟩ := Option.map_eq_some_iff.mp e
  obtain ⟨p1, p2, h1, h2, rfl⟩ := eqO_some e1
  obtain ⟨a1, a2, _⟩ := bor_dp hK wf r1 h1
  obtain ⟨b1, b2, _⟩ := bor_dp hK wf r2 h2
  exact op_eqD (by omega) pins s σ H _ _ v u Q I rx ry ⟨p1, p2, a1, b1, a2, b2, q.same wf (.bl _)⟩
theorem opD_ne (hu : X.A.units + 65 < cLine) : OpR X (compareOp .NotEq) (rD c .own fun a b => ((eqO a b).map (!·)).map D.bl) := by
  intro pins s σ H x y v u Q I rx ry h
  obtain ⟨F, ds, d1, d2, d, wf, r1, r2, e, q⟩ := h
  obtain ⟨b, e1, rfl⟩ := Option.map_eq_some_iff.mp e
  obtain ⟨b, e2, rfl⟩ := Option.map_eq_some_iff.mp e1
  obtain ⟨p1, p2, h1, h2, rfl⟩ := eqO_some e2
  obtain ⟨a1, a2, _⟩ := bor_dp hK wf r1 h1
  obtain ⟨b1, b2, _⟩ := bor_dp hK wf r2 h2
  exact op_neD (by omega) pins s σ H _ _ v u Q I rx ry ⟨p1, p2, a1, b1, a2, b2, q.same wf (.bl _)⟩
omit hK in
theorem opD_cmpI {op : CmpOp} {f : Int → Int → Bool} (ho : OpR X (compareOp op) (rI0 fun i j => .bl (f i j))) : OpR X (compareOp op) (rD c .own fun a b => (cmpI f a b).map D.bl) := by
  intro pins s σ H x y v u Q I rx ry h
  obtain ⟨F, ds, d1, d2, d, wf, r1, r2, e, q⟩ := h
  obtain ⟨b, e1, rfl⟩ := Option.map_eq_some_iff.mp e
  unfold cmpI at e1
  split at e1 <;> cases e1
  cases bor_int r1; cases bor_int r2
  exact ho pins s σ H _ _ v u Q I rx ry ⟨_, _, rfl, rfl, q.same wf (.bl _)⟩
end
/-- a tuple's (a list's) key -/
theorem keys_vals {c : Cfg} {F : Hp} : ∀ {vs : List V} {ds : List D} {ks : List Key}, Reps c F vs ds → keysD ds = some ks → vs = ks.map kV
  | _, _, _, .nil, e => by simp only [keysD] at e; cases e; rfl
  | _, _, _, .cons h r, e => by
    simp only [keysD] at e
    split at e
    · rename_i k hk
      split at e <;> cases e
      rename_i ks hks
      rw [List.map_cons, keys_vals r hks]
      cases h with
      | int i => simp only [keyD] at hk; cases hk; rfl
      | str i => simp only [keyD] at hk; cases hk; rfl
      | _ => simp only [keyD] at hk; cases hk
    · cases e
theorem any_keys {κ : Type} [DecidableEq κ] {kvs : List (κ × V)} {es : List (κ × D)} (k : κ) (h : kvs.map (·.1) = es.map (·.1)) : (es.any fun p => decide (p.1 = k)) = (valV kvs k).isSome := by
  rw [← valV_any]
  have e1 : (es.any fun p => decide (p.1 = k)) = (es.map (·.1)).any fun z => decide (z = k) := by rw [List.any_map]; rfl
  have e2 : (kvs.any fun p => decide (p.1 = k)) = (kvs.map (·.1)).any fun z => decide (z = k) := by rw [List.any_map]; rfl
  rw [e1, e2, h]
section
variable {c : Cfg} {H F H0 : Hp} {s : DS} {v : V}
theorem bor_dK {es : List (Key × D)} (w : Wf c H F s) (r : RepK c .bor H0 F H v (.dK es)) : ∃ p kvs, v = .ref p ∧ H p = some (.dK kvs) ∧ kvs.map (·.1) = es.map (·.1) ∧ Reps c F (kvs.map (·.2)) (es.map (·.2)) := by
  rcases r with r | ⟨p, rfl, _, _, xs, h1, h2, h3⟩
  · cases r with
    | dK h r1 r2 => exact ⟨_, _, rfl, w.sub _ _ h, r1, r2⟩
  · exact ⟨p, xs, rfl, h1, h2, h3⟩
theorem bor_dT {es : List (List Key × D)} (w : Wf c H F s) (r : RepK c .bor H0 F H v (.dT es)) : ∃ p kvs, v = .ref p ∧ H p = some (.dT kvs) ∧ kvs.map (·.1) = es.map (·.1) ∧ Reps c F (kvs.map (·.2)) (es.map (·.2)) := by
  rcases r with r | ⟨p, rfl, _, _, xs, h1, h2, h3⟩
  · cases r with
    | dT h r1 r2 => exact ⟨_, _, rfl, w.sub _ _ h, r1, r2⟩
  · exact ⟨p, xs, rfl, h1, h2, h3⟩
theorem bor_key {d : D} {k : Key} (r : RepK c .bor H0 F H v d) (h : keyD d = some k) : v = kV k := by
  unfold keyD at h
  split at h <;> cases h
  · exact bor_int r
  · rcases r with r | ⟨p, _, _, _, h⟩
    · cases r; rfl
    · exact h.elim
end
end Mn

/-! Mn4: in, subscripts, tests, displays, calls of built-ins. -/
namespace Mn
open PySem PySem.Spec PyProof.Rows L2

section
variable {X : Cx}
/-- x in t, t a tuple of data -/
def rInDT (K : PySem.W.Frag) (neg : Bool) : R2 := fun x y H Q => ∃ d ds, Dp K H x d ∧ Dp K H y (.tuple ds) ∧ SeqAt.shaped d = true ∧ SeqAt.shaped (.tuple ds) = true ∧ Q (.bl (if neg then !(ds.any fun z => PyData.eqv z d) else ds.any fun z => PyData.eqv z d)) H
theorem room_in_shapedT {A : Around} {ds : List PyData} {d : PyData} (h : SeqAt.shaped d = true) (hu : A.units + 65 < cLine) : A.units + 1 + min (PyData.depthAll ds) d.depth < cLine := by
  have h1 := SeqAt.depth_of_shaped h
  have h2 : min (PyData.depthAll ds) d.depth ≤ d.depth := Nat.min_le_right _ _
  omega
theorem op_inDT (hu : X.A.units + 65 < cLine) : OpR X (compareOp .In) (rInDT X.K false) := by
  intro pins s σ H x y v u Q I rx ry h
  obtain ⟨d, ds, hd, he, sd, se, q⟩ := h
  obtain ⟨as, r1⟩ := Dp.reads I d x v hd rx
  obtain ⟨bs, r2⟩ := Dp.reads I (.tuple ds) y u he ry
  exact SeqAt.in_tuple_reads r2 r1 (SeqAt.canLay_of_shaped se) (SeqAt.canLay_of_shaped sd) (room_in_shapedT sd hu) ⟨.bl _, H, I, rfl, q⟩
theorem op_notInDT (hu : X.A.units + 65 < cLine) : OpR X (compareOp .NotIn) (rInDT X.K true) := by
  intro pins s σ H x y v u Q I rx ry h
  obtain ⟨d, ds, hd, he, sd, se, q⟩ := h
  obtain ⟨as, r1⟩ := Dp.reads I d x v hd rx
  obtain ⟨bs, r2⟩ := Dp.reads I (.tuple ds) y u he ry
  exact SeqAt.notIn_tuple_reads r2 r1 (SeqAt.canLay_of_shaped se) (SeqAt.canLay_of_shaped sd) (room_in_shapedT sd hu) ⟨.bl _, H, I, rfl, q⟩
theorem toPy_lst {ds : List D} {p : PyData} (h : toPy (.lst ds) = some p) : ∃ ps, p = .list ps ∧ toPys ds = some ps := by
  simp only [toPy] at h
  split at h <;> cases h
  rename_i ps hp
  exact ⟨ps, rfl, hp⟩
theorem toPy_tup {ds : List D} {p : PyData} (h : toPy (.tup ds) = some p) : ∃ ps, p = .tuple ps ∧ toPys ds = some ps := by
  simp only [toPy] at h
  split at h <;> cases h
  rename_i ps hp
  exact ⟨ps, rfl, hp⟩
/-- what «in» answers: by the kind of the right side -/
theorem inD_cases {x y : D} {b : Bool} (h : inD x y = some b) :
    (∃ ys p ps, y = .lst ys ∧ pyOf x = some p ∧ pyOf (.lst ys) = some (.list ps) ∧ (ps.any fun z => PyData.eqv z p) = b) ∨
    (∃ ys p ps, y = .tup ys ∧ pyOf x = some p ∧ pyOf (.tup ys) = some (.tuple ps) ∧ (ps.any fun z => PyData.eqv z p) = b) ∨
    (∃ kvs k, y = .dK kvs ∧ keyD x = some k ∧ (kvs.any fun p => decide (p.1 = k)) = b) ∨
    (∃ kvs ds k, y = .dT kvs ∧ x = .tup ds ∧ keysD ds = some k ∧ (kvs.any fun p => decide (p.1 = k)) = b) := by
  unfold inD at h
  split at h
  · rename_i ys
    cases ex : pyOf x with
    | none => rw [ex] at h; cases h
    | some p =>
      cases ey : pyOf (.lst ys) with
      | none => rw [ex, ey] at h; cases h
      | some pl =>
        rw [ex, ey] at h
        have ey' : toPy (.lst ys) = some pl := by
          unfold pyOf at ey
          split at ey
          · rename_i p' hp
            split at ey <;> cases ey
            exact hp
          · cases ey
        obtain ⟨ps, rfl, hps⟩ := toPy_lst ey'
        exact .inl ⟨ys, p, ps, rfl, rfl, ey, anyEq_py ex hps h⟩
  · rename_i ys
    cases ex : pyOf x with
    | none => rw [ex] at h; cases h
    | some p =>
      cases ey : pyOf (.tup ys) with
      | none => rw [ex, ey] at h; cases h
      | some pl =>
        rw [ex, ey] at h
        have ey' : toPy (.tup ys) = some pl := by
          unfold pyOf at ey
          split at ey
          · rename_i p' hp
            split at ey <;> cases ey
            exact hp
          · cases ey
        obtain ⟨ps, rfl, hps⟩ := toPy_tup ey'
        exact .inr (.inl ⟨ys, p, ps, rfl, rfl, ey, anyEq_py ex hps h⟩)
  · rename_i kvs
    split at h
    · rename_i k hk
      cases h
      exact .inr (.inr (.inl ⟨kvs, k, rfl, hk, rfl⟩))
    · cases h
  · rename_i kvs
    split at h
    · rename_i ds
      split at h
      · rename_i k hk
        cases h
        exact .inr (.inr (.inr ⟨kvs, ds, k, rfl, rfl, hk, rfl⟩))
      · cases h
    · cases h
  · cases h
theorem opD_in {c : Cfg} (hK : X.K = c.K) (hu : X.A.units + 65 < cLine) : OpR X (compareOp .In) (rD c .own fun a b => (inD a b).map D.bl) := by
  intro pins s σ H x y v u Q I rx ry h
  obtain ⟨F, ds, d1, d2, d, wf, r1, r2, e, q⟩ := h
  obtain ⟨b, e1, rfl⟩ := Option.map_eq_some_iff.mp e
  rcases inD_cases e1 with ⟨ys, p, ps, rfl, h1, h2, rfl⟩ | ⟨ys, p, ps, rfl, h1, h2, rfl⟩ | ⟨kvs, k, rfl, h1, rfl⟩ | ⟨kvs, ds', k, rfl, rfl, h1, rfl⟩
  · obtain ⟨a1, a2, _⟩ := bor_dp hK wf r1 h1
    obtain ⟨b1, b2, _⟩ := bor_dp hK wf r2 h2
    exact op_inD hu pins s σ H _ _ v u Q I rx ry ⟨p, ps, a1, b1, a2, b2, q.same wf (.bl _)⟩
  · obtain ⟨a1, a2, _⟩ := bor_dp hK wf r1 h1
    obtain ⟨b1, b2, _⟩ := bor_dp hK wf r2 h2
    exact op_inDT hu pins s σ H _ _ v u Q I rx ry ⟨p, ps, a1, b1, a2, b2, q.same wf (.bl _)⟩
  · cases bor_key r1 h1
    obtain ⟨p, ks, rfl, e3, e4, e5⟩ := bor_dK wf r2
    cases ry
    have g : DGet H p (kV k) (valV ks k) := DGet.k e3
    refine d_in (by omega) I g rx fun s' I' => ⟨.bl _, H, I', rfl, ?_⟩
    rw [← any_keys k e4]
    exact q.same wf (.bl _)
  · obtain ⟨p1, xs, rfl, f1, f2⟩ := bor_tup wf r1
    obtain ⟨p, ks, rfl, e3, e4, e5⟩ := bor_dT wf r2
    cases ry
    have hx := keys_vals f2 h1
    subst hx
    have g : DGet H p (.ref p1) (valV ks k) := DGet.t e3 f1
    refine d_in (by omega) I g rx fun s' I' => ⟨.bl _, H, I', rfl, ?_⟩
    rw [← any_keys k e4]
    exact q.same wf (.bl _)
theorem opD_notIn {c : Cfg} (hK : X.K = c.K) (hu : X.A.units + 65 < cLine) : OpR X (compareOp .NotIn) (rD c .own fun a b => ((inD a b).map (!·)).map D.bl) := by
  intro pins s σ H x y v u Q I rx ry h
  obtain ⟨F, ds, d1, d2, d, wf, r1, r2, e, q⟩ := h
  obtain ⟨b, e0, rfl⟩ := Option.map_eq_some_iff.mp e
  obtain ⟨b, e1, rfl⟩ := Option.map_eq_some_iff.mp e0
  rcases inD_cases e1 with ⟨ys, p, ps, rfl, h1, h2, rfl⟩ | ⟨ys, p, ps, rfl, h1, h2, rfl⟩ | ⟨kvs, k, rfl, h1, rfl⟩ | ⟨kvs, ds', k, rfl, rfl, h1, rfl⟩
  · obtain ⟨a1, a2, _⟩ := bor_dp hK wf r1 h1
    obtain ⟨b1, b2, _⟩ := bor_dp hK wf r2 h2
    exact op_notInD hu pins s σ H _ _ v u Q I rx ry ⟨p, ps, a1, b1, a2, b2, q.same wf (.bl _)⟩
  · obtain ⟨a1, a2, _⟩ := bor_dp hK wf r1 h1
    obtain ⟨b1, b2, _⟩ := bor_dp hK wf r2 h2
    exact op_notInDT hu pins s σ H _ _ v u Q I rx ry ⟨p, ps, a1, b1, a2, b2, q.same wf (.bl _)⟩
  · cases bor_key r1 h1
    obtain ⟨p, ks, rfl, e3, e4, e5⟩ := bor_dK wf r2
    cases ry
    have g : DGet H p (kV k) (valV ks k) := DGet.k e3
    refine d_notIn (by omega) I g rx fun s' I' => ⟨.bl _, H, I', rfl, ?_⟩
    rw [← any_keys k e4]
    exact q.same wf (.bl _)
  · obtain ⟨p1, xs, rfl, f1, f2⟩ := bor_tup wf r1
    obtain ⟨p, ks, rfl, e3, e4, e5⟩ := bor_dT wf r2
    cases ry
    have hx := keys_vals f2 h1
    subst hx
    have g : DGet H p (.ref p1) (valV ks k) := DGet.t e3 f1
    refine d_notIn (by omega) I g rx fun s' I' => ⟨.bl _, H, I', rfl, ?_⟩
    rw [← any_keys k e4]
    exact q.same wf (.bl _)
/-- what a look-up finds -/
theorem find_val {c : Cfg} {F : Hp} {κ : Type} [DecidableEq κ] (k : κ) : ∀ {kvs : List (κ × V)} {es : List (κ × D)}, kvs.map (·.1) = es.map (·.1) → Reps c F (kvs.map (·.2)) (es.map (·.2)) → (∃ v d, valV kvs k = some v ∧ findK k es = some d ∧ Rep c F v d) ∨ (valV kvs k = none ∧ findK k es = none)
  | [], [], _, _ => .inr ⟨rfl, rfl⟩
  | [], _ :: _, h, _ => by simp at h
  | _ :: _, [], h, _ => by simp at h
  | p :: r, q :: t, h, z => by
    simp only [List.map_cons, List.cons.injEq] at h
    obtain ⟨h1, h2⟩ := h
    simp only [List.map_cons] at z
    cases z with
    | cons za zr =>
      by_cases e : p.1 = k
      · refine .inl ⟨p.2, q.2, valV_pos e, ?_, za⟩
        simp only [findK]
        rw [if_pos (h1 ▸ e)]
      · have e' : ¬ q.1 = k := fun w => e (h1.trans w)
        rcases find_val k h2 zr with ⟨v, d, a1, a2, a3⟩ | ⟨a1, a2⟩
        · refine .inl ⟨v, d, (valV_neg e).trans a1, ?_, a3⟩
          simp only [findK]
          rw [if_neg e']; exact a2
        · refine .inr ⟨(valV_neg e).trans a1, ?_⟩
          simp only [findK]
          rw [if_neg e']; exact a2
theorem reps_at {c : Cfg} {F : Hp} {vs : List V} {ds : List D} {i : Int} {d : D} (r : Reps c F vs ds) (h : atI ds i = some d) : ∃ v, atI vs i = some v ∧ Rep c F v d := by
  unfold atI at h ⊢
  rw [← r.length] at h
  obtain ⟨j, h1, h2⟩ := Option.bind_eq_some_iff.mp h
  obtain ⟨v, h3, h4⟩ := r.at h2
  exact ⟨v, by rw [h1]; exact h3, h4⟩
theorem ixD {c : Cfg} (hK : X.K = c.K) (hu : X.A.units + 65 < cLine) : IxR X (rD c .val idxD) := by
  intro value slice pins s σ H x y v u Q I rx ry h hs
  obtain ⟨F, ds, d1, d2, d, wf, r1, r2, e, q⟩ := h
  unfold idxD at e
  split at e
  · obtain ⟨p, xs, rfl, h1, h2⟩ := bor_lst wf r1
    cases bor_int r2
    obtain ⟨z, h3, h4⟩ := reps_at h2 e
    exact ix_list value slice pins s σ H _ _ v u Q I rx ry ⟨_, _, _, _, rfl, rfl, SqL.of h1, h3, q.sameV wf h4⟩ hs
  · obtain ⟨p, xs, rfl, h1, h2⟩ := bor_tup wf r1
    cases bor_int r2
    obtain ⟨z, h3, h4⟩ := reps_at h2 e
    exact ix_tup value slice pins s σ H _ _ v u Q I rx ry ⟨_, _, _, _, rfl, rfl, SqT.of h1, h3, q.sameV wf h4⟩ hs
  · obtain ⟨k, hk, e2⟩ := Option.bind_eq_some_iff.mp e
    cases bor_key r2 hk
    obtain ⟨p, ks, rfl, e3, e4, e5⟩ := bor_dK wf r1
    cases rx
    rcases find_val k e4 e5 with ⟨z, d', a1, a2, a3⟩ | ⟨_, a2⟩
    · rw [a2] at e2; cases e2
      have g : DGet H p (kV k) (some z) := by rw [← a1]; exact DGet.k e3
      have ty := dict_typeIs I g
      exact tail_any (ops := [.ref p, u]) ty PySem.F.slot_dict_getitem.lookup (d_getItem (by omega) I g ry fun w' s3 I3 rw' => ⟨z, H, I3, rw', q.sameV wf a3⟩) hs
    · rw [a2] at e2; cases e2
  · obtain ⟨k, hk, e2⟩ := Option.bind_eq_some_iff.mp e
    obtain ⟨p1, xs, rfl, f1, f2⟩ := bor_tup wf r2
    have hx := keys_vals f2 hk
    subst hx
    obtain ⟨p, ks, rfl, e3, e4, e5⟩ := bor_dT wf r1
    cases rx
    rcases find_val k e4 e5 with ⟨z, d', a1, a2, a3⟩ | ⟨_, a2⟩
    · rw [a2] at e2; cases e2
      have g : DGet H p (.ref p1) (some z) := by rw [← a1]; exact DGet.t e3 f1
      have ty := dict_typeIs I g
      exact tail_any (ops := [.ref p, u]) ty PySem.F.slot_dict_getitem.lookup (d_getItem (by omega) I g ry fun w' s3 I3 rw' => ⟨z, H, I3, rw', q.sameV wf a3⟩) hs
    · rw [a2] at e2; cases e2
  · cases e
end
end Mn

/-! Mn5: names, constants, comparisons, tests, displays, calls of built-ins: the rules by data. -/
namespace Mn
open PySem PySem.Spec PyProof.Rows L2

/-! ### meanings -/
def eVar (i : Nat) : EvF := fun ρ => match ρ[i]? with
  | some (.val d) => M.ret d
  | _ => bad
def eVarB (i : Nat) : EvF := fun ρ => match ρ[i]? with
  | some (.val d) => M.ret d
  | some (.own d) => M.ret d
  | _ => bad
def eC (d : D) : EvF := fun _ => M.ret d
def eCmp (op : COp) (fa fb : EvF) : EvF := eBin (fun a b => (op.run a b).map D.bl) fa fb
def eChain (op op' : COp) (fa fb fc : EvF) : EvF := fun ρ => (fa ρ).bnd fun x => (fb ρ).bnd fun y => (lift (op.run x y)).bnd fun k =>
  if k = true then (fc ρ).bnd fun z => lift ((op'.run y z).map D.bl) else M.ret (.bl false)
def ofBl {α : Type} (d : D) (k : Bool → M α) : M α := match d with
  | .bl b => k b
  | _ => bad
def eAnd (fa fb : EvF) : EvF := fun ρ => (fa ρ).bnd fun x => ofBl x fun b => if b = true then fb ρ else M.ret (.bl false)
def eOr (fa fb : EvF) : EvF := fun ρ => (fa ρ).bnd fun x => ofBl x fun b => if b = true then M.ret (.bl true) else fb ρ
def eNot (fa : EvF) : EvF := fun ρ => (fa ρ).bnd fun x => ofBl x fun b => M.ret (.bl (!b))
def eIf (fc fa fb : EvF) : EvF := fun ρ => (fc ρ).bnd fun x => ofBl x fun b => if b = true then fa ρ else fb ρ
/-- a value that is True or False -/
def eBool (f : EvF) : EvF := fun ρ => (f ρ).bnd fun x => ofBl x fun b => M.ret (.bl b)

def PostT (c : Cfg) (E : XK) (H F : Hp) (Q : Bool → Hp → Prop) : Res D → Prop
  | .ok d s' => ∃ b, d = .bl b ∧ ∀ H' F', Next c H F H' F' s' → Q b H'
  | .err k ds s' => ∀ cls dd H' F', Next c H F H' F' s' → ErrRep c F' cls dd k ds → E cls dd H'
  | .bad => False
def tT (c : Cfg) (E : XK) (f : EvF) : TT := fun σ H Q => ∃ F ρ s, Sim c σ H F ρ s ∧ PostT c E H F Q (f ρ s)

section
variable {X : Cx} {c : Cfg} {E : XK} {κ : Kd} {a b e : Expr} {fa fb fc f : EvF} {pos : Pos} {ta tb tc : TE}
theorem PostT.shift {H F H' F' : Hp} {s' : DS} {Q : Bool → Hp → Prop} (n : Next c H F H' F' s') {r : Res D} (h : PostT c E H F Q r) : PostT c E H' F' Q r := by
  cases r with
  | ok d s2 =>
    obtain ⟨b, e, q⟩ := h
    exact ⟨b, e, fun H2 F2 n2 => q H2 F2 (n.trans n2)⟩
  | err k ds s2 => exact fun cls dd H2 F2 n2 r => h cls dd H2 F2 (n.trans n2) r
  | bad => exact h
theorem PostT.mono {H F : Hp} {Q Q' : Bool → Hp → Prop} {r : Res D} (h : PostT c E H F Q r) (hq : ∀ b H', Q b H' → Q' b H') : PostT c E H F Q' r := by
  cases r with
  | ok d s2 =>
    obtain ⟨b, e, q⟩ := h
    exact ⟨b, e, fun H2 F2 n2 => hq _ _ (q H2 F2 n2)⟩
  | err k ds s2 => exact h
  | bad => exact h
/-- a test, then the rest -/
theorem Post.test {H F : Hp} {s : DS} {Q : VK} {m : M D} {g : Bool → M D} (h : Post c E κ H F Q (m.bnd (fun x => ofBl x g) s)) :
    PostT c E H F (fun b H1 => ∃ s1 F1, Next c H F H1 F1 s1 ∧ Post c E κ H1 F1 Q (g b s1)) (m s) := by
  cases e : m s with
  | ok d s1 =>
    rw [bnd_ok e] at h
    cases d with
    | bl b => exact ⟨b, rfl, fun H1 F1 n => ⟨s1, F1, n, h.shift n⟩⟩
    | _ => exact h.elim
  | err k ds s1 => rw [bnd_err e] at h; exact h
  | bad => rw [bnd_bad e] at h; exact h
theorem PostT.test {H F : Hp} {s : DS} {Q : Bool → Hp → Prop} {m : M D} {g : Bool → M D} (h : PostT c E H F Q (m.bnd (fun x => ofBl x g) s)) :
    PostT c E H F (fun b H1 => ∃ s1 F1, Next c H F H1 F1 s1 ∧ PostT c E H1 F1 Q (g b s1)) (m s) := by
  cases e : m s with
  | ok d s1 =>
    rw [bnd_ok e] at h
    cases d with
    | bl b => exact ⟨b, rfl, fun H1 F1 n => ⟨s1, F1, n, h.shift n⟩⟩
    | _ => obtain ⟨_, z, _⟩ := h
  | err k ds s1 => rw [bnd_err e] at h; exact h
  | bad => rw [bnd_bad e] at h; exact h
theorem PostT.bnd {H F : Hp} {s : DS} {Q : Bool → Hp → Prop} {m : M D} {g : D → M D} (h : PostT c E H F Q (m.bnd g s)) :
    Post c E κ H F (fun v H1 => ∃ d s1 F1, Next c H F H1 F1 s1 ∧ RepK c κ H F1 H1 v d ∧ PostT c E H1 F1 Q (g d s1)) (m s) := by
  cases e : m s with
  | ok d s1 =>
    rw [bnd_ok e] at h
    exact fun v H1 F1 n r => ⟨d, s1, F1, n, r, h.shift n⟩
  | err k ds s1 => rw [bnd_err e] at h; exact h
  | bad => rw [bnd_bad e] at h; exact h
theorem PostT.ofPost {H F : Hp} {Q : Bool → Hp → Prop} {r : Res D} (h : PostT c E H F Q r) : Post c E κ H F (fun v H' => ∃ k, v = .bl k ∧ Q k H') r := by
  cases r with
  | ok d s2 =>
    obtain ⟨b, rfl, q⟩ := h
    intro v H' F' n r
    have hv : v = .bl b := by
      cases κ with
      | val => cases r; rfl
      | bor => exact bor_bl r
      | own =>
        rcases r with ⟨_, r⟩ | ⟨p, _, _, _, _, z⟩
        · cases r; rfl
        · exact z.elim
    exact ⟨b, hv, q H' F' n⟩
  | err k ds s2 => exact h
  | bad => exact h
theorem _root_.L2.PT.imp {t t' : TT} (h : PT X e t) (i : ∀ σ H Q, t' σ H Q → t σ H Q) : PT X e t' := ⟨fun pins s σ H Q I hq => h.run pins s σ H Q I (i σ H Q hq)⟩
theorem _root_.L2.PW.imp {t t' : TT} (h : PW X e t) (i : ∀ σ H Q, t' σ H Q → t σ H Q) : PW X e t' := ⟨fun whole pins s σ H Q I hq => h.run whole pins s σ H Q I (i σ H Q hq)⟩

/-! ### names, constants -/
theorem slot_at {σ : L2.St} {H F : Hp} {ρ : Env} {s : DS} (sim : Sim c σ H F ρ s) {i : Nat} {sl : Sl} (h : ρ[i]? = some sl) : ∃ o, σ[i]? = some o ∧ SlotOk c F H o sl := by
  have h1 := (List.getElem?_eq_some_iff.mp h).1
  rw [← sim.sl.1] at h1
  exact ⟨_, List.getElem?_eq_getElem h1, sim.sl.2 i _ sl (List.getElem?_eq_getElem h1) h⟩
theorem de_var {i : Nat} {x : Str} (hN : X.N[i]? = some x) (hv : Vis X.env.scope x) (hd : (x == ("__debug__" : Str)) = false) (hcd : (x == ("__classdict__" : Str)) = false) : PE X (.Name x pos) (tK c E .val (eVar i)) :=
  (pe_var hN hv hd hcd).imp fun σ H Q ⟨F, ρ, s, sim, p⟩ => by
    simp only [eVar] at p
    cases h : ρ[i]? with
    | none => rw [h] at p; exact p.elim
    | some sl =>
      rw [h] at p
      obtain ⟨o, ho, r⟩ := slot_at sim h
      cases sl with
      | val d =>
        obtain ⟨v, rfl, r⟩ := r
        exact ⟨v, ho, p v H F (Next.refl sim.wf) r⟩
      | _ => exact p.elim
theorem de_varB {i : Nat} {x : Str} (hN : X.N[i]? = some x) (hv : Vis X.env.scope x) (hd : (x == ("__debug__" : Str)) = false) (hcd : (x == ("__classdict__" : Str)) = false) : PE X (.Name x pos) (tK c E .bor (eVarB i)) :=
  (pe_var hN hv hd hcd).imp fun σ H Q ⟨F, ρ, s, sim, p⟩ => by
    simp only [eVarB] at p
    cases h : ρ[i]? with
    | none => rw [h] at p; exact p.elim
    | some sl =>
      rw [h] at p
      obtain ⟨o, ho, r⟩ := slot_at sim h
      cases sl with
      | val d =>
        obtain ⟨v, rfl, r⟩ := r
        exact ⟨v, ho, p v H F (Next.refl sim.wf) (.inl r)⟩
      | own d =>
        obtain ⟨v, rfl, r⟩ := r
        exact ⟨v, ho, p v H F (Next.refl sim.wf) (.inr r)⟩
      | un => exact p.elim
theorem de_tC {v : V} {d : D} (h : PE X e (tC v)) (r : ∀ F, Rep c F v d) (hs : isSeq d = false := by rfl) : PE X e (tK c E κ (eC d)) := h.imp fun σ H Q ⟨F, ρ, s, sim, p⟩ => p v H F (Next.refl sim.wf) (up_rep (r F) hs)
theorem de_int {i : Int} {j : Nat} : PE X (.Constant (.int i) j pos) (tK c E κ (eC (.int i))) := de_tC pe_int fun _ => .int i
theorem de_bl {i : Bool} {j : Nat} : PE X (.Constant (.bool i) j pos) (tK c E κ (eC (.bl i))) := de_tC pe_bl fun _ => .bl i
theorem de_non {j : Nat} : PE X (.Constant .none j pos) (tK c E κ (eC .non)) := de_tC pe_non fun _ => .non
theorem de_str {x : Str} {j : Nat} : PE X (.Constant (.str x) j pos) (tK c E κ (eC (.str x))) := de_tC pe_str fun _ => .str x
/-- -a -/
def negD : D → Option D
  | .int i => some (.int (-i))
  | _ => none
def eNeg (fa : EvF) : EvF := fun ρ => (fa ρ).bnd fun x => lift (negD x)
theorem de_neg (ha : PE X a (tK c E .bor fa)) : PE X (.UnaryOp .USub a pos) (tK c E .val (eNeg fa)) := (pe_un un_neg ha).imp fun σ H Q ⟨F, ρ, s, sim, p⟩ => by
  refine ⟨F, ρ, s, sim, (Post.bnd (κ' := .bor) p).mono fun x H1 ⟨d1, s1, F1, n1, r1, p1⟩ => ?_⟩
  obtain ⟨d, ed, q⟩ := p1.end
  unfold negD at ed
  split at ed <;> cases ed
  cases bor_int r1
  exact ⟨_, rfl, q _ H1 F1 (Next.refl n1.wf) (.int _)⟩

/-! ### comparisons -/
theorem de_cmp {op : CmpOp} {g : D → D → Option D} (ho : OpR X (compareOp op) (rD c κ g)) (ha : PE X a (tK c E .bor fa)) (hb : PE X b (tK c E .bor fb)) (hm : behindInMarks op b = false) : PE X (.Compare a [op] [b] pos) (tK c E κ (eBin g fa fb)) :=
  (pe_cmpR ho ha hb hm).imp fun _ _ _ h => tK_two h
theorem tT_two {σ : L2.St} {H : Hp} {Q : Bool → Hp → Prop} {g : D → D → Option D} (h : tT c E (eBin g fa fb) σ H Q) : tTest (tOp (rD c κ g) (tK c E .bor fa) (tK c E .bor fb)) σ H Q := by
  obtain ⟨F, ρ, s, sim, p⟩ := h
  exact tK_two ⟨F, ρ, s, sim, p.ofPost⟩
theorem dt_cmp {op : CmpOp} {g : D → D → Option D} (ho : OpR X (compareOp op) (rD c κ g)) (ha : PE X a (tK c E .bor fa)) (hb : PE X b (tK c E .bor fb)) (hm : behindInMarks op b = false) : PT X (.Compare a [op] [b] pos) (tT c E (eBin g fa fb)) :=
  (pt_cmpR ho ha hb hm).imp fun _ _ _ h => tT_two h
theorem tK_chain {e3 : Expr} {op op' : COp} {σ : L2.St} {H : Hp} {Q : VK} (h : tK c E κ (eChain op op' fa fb fc) σ H Q) :
    tChain (rD c .own fun a b => (op.run a b).map D.bl) (rD c κ fun a b => (op'.run a b).map D.bl) (tK c E .bor fa) (tK c E .bor fb) (tK c E .bor fc) σ H Q := by
  obtain ⟨F, ρ, s, sim, p⟩ := h
  refine ⟨F, ρ, s, sim, (Post.bnd (κ' := .bor) p).mono fun x H1 ⟨d1, s1, F1, n1, r1, p1⟩ => ?_⟩
  refine ⟨F1, ρ, s1, sim.next n1, (Post.bnd (κ' := .bor) p1).mono fun y H2 ⟨d2, s2, F2, n2, r2, p2⟩ => ?_⟩
  cases e : op.run d1 d2 with
  | none => rw [e] at p2; exact p2.elim
  | some k =>
    rw [e] at p2
    have p3 : Post c E κ H2 F2 Q ((if k = true then (fc ρ).bnd fun z => lift ((op'.run d2 z).map D.bl) else M.ret (.bl false)) s2) := p2
    refine ⟨F2, s2, d1, d2, .bl k, n2.wf, r1.next n2, r2, by show Option.map D.bl (op.run d1 d2) = _; rw [e]; rfl, fun v H3 F3 n3 r3 => ⟨k, ?_, ?_⟩⟩
    · rcases r3 with ⟨_, r3⟩ | ⟨_, _, _, _, _, z⟩
      · cases r3; rfl
      · exact z.elim
    · cases k with
      | true =>
        rw [if_pos rfl] at p3
        refine iteT ⟨F3, ρ, s2, ((sim.next n1).next n2).next n3, (Post.bnd (κ' := .bor) (p3.shift n3)).mono fun z H4 ⟨d4, s4, F4, n4, r4, p4⟩ => ?_⟩
        obtain ⟨d, ed, q⟩ := p4.end
        exact ⟨F4, s4, d2, d4, d, n4.wf, (r2.next n3).next n4, r4, ed, q⟩
      | false =>
        rw [if_neg (by simp)] at p3
        refine iteF (p3 _ _ _ n3 (up_rep (.bl _)))
theorem de_chain {e3 : Expr} {p p' : CmpOp} {op op' : COp} (ho : OpR X (compareOp p) (rD c .own fun a b => (op.run a b).map D.bl)) (ho' : OpR X (compareOp p') (rD c κ fun a b => (op'.run a b).map D.bl))
    (ha : PE X a (tK c E .bor fa)) (hb : PE X b (tK c E .bor fb)) (hc : PE X e3 (tK c E .bor fc)) (hm : lastMarks [p, p'] [b, e3] = false) : PE X (.Compare a [p, p'] [b, e3] pos) (tK c E κ (eChain op op' fa fb fc)) :=
  (pe_chain ho ho' ha hb hc hm).imp fun _ _ _ h => tK_chain (e3 := e3) h
theorem dt_chain {e3 : Expr} {p p' : CmpOp} {op op' : COp} (ho : OpR X (compareOp p) (rD c .own fun a b => (op.run a b).map D.bl)) (ho' : OpR X (compareOp p') (rD c κ fun a b => (op'.run a b).map D.bl))
    (ha : PE X a (tK c E .bor fa)) (hb : PE X b (tK c E .bor fb)) (hc : PE X e3 (tK c E .bor fc)) (hm : lastMarks [p, p'] [b, e3] = false) : PT X (.Compare a [p, p'] [b, e3] pos) (tT c E (eChain op op' fa fb fc)) :=
  (pt_chain ho ho' ha hb hc hm).imp fun _ _ _ ⟨F, ρ, s, sim, p⟩ => tK_chain (e3 := e3) ⟨F, ρ, s, sim, p.ofPost⟩
/-- is None -/
def isNon : D → Bool
  | .non => true
  | _ => false
theorem rep_non {F : Hp} {H H0 : Hp} {v : V} {d : D} (r : RepK c .bor H0 F H v d) (hcl : ¬ c.clo .non) : decide (v = .non) = isNon d := by
  rcases r with r | ⟨p, rfl, _, _, h⟩
  · cases r with
    | non => rfl
    | clo h =>
      have : v ≠ .non := fun e => hcl (e ▸ h)
      rw [decide_eq_false this]; rfl
    | _ => rfl
  · cases d with
    | non => exact h.elim
    | _ => rfl
theorem opD_is (hcl : ¬ c.clo .non) : OpR X (compareOp .Is) (rD c .own fun a b => match b with
    | .non => some (.bl (isNon a))
    | _ => none) := by
  intro pins s σ H x y v u Q I rx ry h
  obtain ⟨F, ds, d1, d2, d, wf, r1, r2, e, q⟩ := h
  cases d2 with
  | non =>
    cases e
    cases bor_non r2
    refine op_isN pins s σ H _ _ v u Q I rx ry ⟨rfl, ?_⟩
    rw [rep_non r1 hcl]
    exact q.same wf (.bl _)
  | _ => cases e
theorem opD_isNot (hcl : ¬ c.clo .non) : OpR X (compareOp .IsNot) (rD c .own fun a b => match b with
    | .non => some (.bl (!isNon a))
    | _ => none) := by
  intro pins s σ H x y v u Q I rx ry h
  obtain ⟨F, ds, d1, d2, d, wf, r1, r2, e, q⟩ := h
  cases d2 with
  | non =>
    cases e
    cases bor_non r2
    refine op_notN pins s σ H _ _ v u Q I rx ry ⟨rfl, ?_⟩
    rw [rep_non r1 hcl]
    exact q.same wf (.bl _)
  | _ => cases e

/-! ### and, or, not, if else -/
theorem de_one {op : BoolOp} (h : PE X a (tK c E κ fa)) : PE X (.BoolOp op [a] pos) (tK c E κ fa) := pe_one h
theorem de_and {rest : List Expr} (ha : PE X a (tK c E .bor fa)) (hb : PE X (.BoolOp .And (b :: rest) pos) (tK c E κ fb)) : PE X (.BoolOp .And (a :: b :: rest) pos) (tK c E κ (eAnd fa fb)) :=
  (pe_and ha hb).imp fun σ H Q ⟨F, ρ, s, sim, p⟩ => ⟨F, ρ, s, sim, ((Post.test p).ofPost (κ := .bor)).mono fun v H1 ⟨k, e, s1, F1, n1, p1⟩ => ⟨k, e, by
    cases k with
    | true => rw [if_pos rfl] at p1; exact iteT ⟨F1, ρ, s1, sim.next n1, p1⟩
    | false => rw [if_neg (by simp)] at p1; exact iteF (p1 _ _ _ (Next.refl n1.wf) (up_rep (.bl _)))⟩⟩
theorem de_or {rest : List Expr} (ha : PE X a (tK c E .bor fa)) (hb : PE X (.BoolOp .Or (b :: rest) pos) (tK c E κ fb)) : PE X (.BoolOp .Or (a :: b :: rest) pos) (tK c E κ (eOr fa fb)) :=
  (pe_or ha hb).imp fun σ H Q ⟨F, ρ, s, sim, p⟩ => ⟨F, ρ, s, sim, ((Post.test p).ofPost (κ := .bor)).mono fun v H1 ⟨k, e, s1, F1, n1, p1⟩ => ⟨k, e, by
    cases k with
    | true => rw [if_pos rfl] at p1; exact iteT (p1 _ _ _ (Next.refl n1.wf) (up_rep (.bl _)))
    | false => rw [if_neg (by simp)] at p1; exact iteF ⟨F1, ρ, s1, sim.next n1, p1⟩⟩⟩
theorem de_not (ha : PE X a (tK c E .bor fa)) : PE X (.UnaryOp .Not a pos) (tK c E κ (eNot fa)) :=
  (pe_not ha).imp fun σ H Q ⟨F, ρ, s, sim, p⟩ => ⟨F, ρ, s, sim, ((Post.test p).ofPost (κ := .bor)).mono fun v H1 ⟨k, e, s1, F1, n1, p1⟩ => ⟨k, e, p1 _ _ _ (Next.refl n1.wf) (up_rep (.bl _))⟩⟩
theorem de_if {e3 : Expr} (hc : PT X e3 (tT c E fc)) (ha : PE X a (tK c E κ fa)) (hb : PE X b (tK c E κ fb)) : PE X (.IfExp e3 a b pos) (tK c E κ (eIf fc fa fb)) :=
  (pe_ifExp hc ha hb).imp fun σ H Q ⟨F, ρ, s, sim, p⟩ => ⟨F, ρ, s, sim, (Post.test p).mono fun k H1 ⟨s1, F1, n1, p1⟩ => by
    cases k with
    | true => rw [if_pos rfl] at p1; exact iteT ⟨F1, ρ, s1, sim.next n1, p1⟩
    | false => rw [if_neg (by simp)] at p1; exact iteF ⟨F1, ρ, s1, sim.next n1, p1⟩⟩
theorem dw_one_and (ha : PT X a (tT c E fa)) : PW X (.BoolOp .And [a] pos) (tT c E fa) := pw_and1 ha
theorem dw_one_or (ha : PT X a (tT c E fa)) : PW X (.BoolOp .Or [a] pos) (tT c E fa) := pw_or1 ha
theorem dw_and {rest : List Expr} (ha : PT X a (tT c E fa)) (hb : PW X (.BoolOp .And (b :: rest) pos) (tT c E fb)) : PW X (.BoolOp .And (a :: b :: rest) pos) (tT c E (eAnd fa fb)) :=
  (pw_and ha hb).imp fun σ H Q ⟨F, ρ, s, sim, p⟩ => ⟨F, ρ, s, sim, (PostT.test p).mono fun k H1 ⟨s1, F1, n1, p1⟩ => by
    cases k with
    | true => rw [if_pos rfl] at p1; exact iteT ⟨F1, ρ, s1, sim.next n1, p1⟩
    | false =>
      rw [if_neg (by simp)] at p1
      obtain ⟨b, e, q⟩ := p1
      cases e
      exact iteF (q _ _ (Next.refl n1.wf))⟩
theorem dw_or {rest : List Expr} (ha : PT X a (tT c E fa)) (hb : PW X (.BoolOp .Or (b :: rest) pos) (tT c E fb)) : PW X (.BoolOp .Or (a :: b :: rest) pos) (tT c E (eOr fa fb)) :=
  (pw_or ha hb).imp fun σ H Q ⟨F, ρ, s, sim, p⟩ => ⟨F, ρ, s, sim, (PostT.test p).mono fun k H1 ⟨s1, F1, n1, p1⟩ => by
    cases k with
    | true =>
      rw [if_pos rfl] at p1
      obtain ⟨b, e, q⟩ := p1
      cases e
      exact iteT (q _ _ (Next.refl n1.wf))
    | false => rw [if_neg (by simp)] at p1; exact iteF ⟨F1, ρ, s1, sim.next n1, p1⟩⟩
theorem dt_not (ha : PT X a (tT c E fa)) : PT X (.UnaryOp .Not a pos) (tT c E (eNot fa)) :=
  (pt_not ha).imp fun σ H Q ⟨F, ρ, s, sim, p⟩ => ⟨F, ρ, s, sim, (PostT.test p).mono fun k H1 ⟨s1, F1, n1, p1⟩ => by
    obtain ⟨b, e, q⟩ := p1
    cases e
    exact q _ _ (Next.refl n1.wf)⟩
theorem dt_val (h : PE X e (tK c E .bor f)) (he : ∀ whole, isTrue e X.env whole = (do let v ← whole; standAt e.pos; holding [v] (truthy v))) : PT X e (tT c E f) :=
  (pt_val h he).imp fun σ H Q ⟨F, ρ, s, sim, p⟩ => ⟨F, ρ, s, sim, p.ofPost⟩

/-! ### subscripts -/
theorem de_ix (hK : X.K = c.K) (hu : X.A.units + 65 < cLine) (ha : PE X a (tK c E .bor fa)) (hb : PE X b (tK c E .bor fb)) (hs : PlainIx b) : PE X (.Subscript a b pos) (tK c E .val (eBin idxD fa fb)) :=
  (pe_ix (ixD hK hu) ha hb hs).imp fun _ _ _ h => tK_two h
end
end Mn

/-! Mn6: argument lists, displays, calls of built-ins, slices. -/
namespace Mn
open PySem PySem.Spec PyProof.Rows L2

/-- an argument: plain, or with a star -/
inductive Ar where
  | one (f : EvF) | star (f : EvF)
def evs : List Ar → Env → M (List D)
  | [], _ => M.ret []
  | .one f :: r, ρ => (f ρ).bnd fun d => (evs r ρ).bnd fun ds => M.ret (d :: ds)
  | .star f :: r, ρ => (f ρ).bnd fun d => (lift (itemsD d)).bnd fun es => (evs r ρ).bnd fun ds => M.ret (es ++ ds)
def PostA (c : Cfg) (E : XK) (b : Bool) (H F : Hp) (Q : List V → Hp → Prop) : Res (List D) → Prop
  | .ok ds s' => ∀ vs H' F', Next c H F H' F' s' → (if b = true then Paired (fun v d => RepK c .bor H F' H' v d) vs ds else Reps c F' vs ds) → Q vs H'
  | .err k ds s' => ∀ cls dd H' F', Next c H F H' F' s' → ErrRep c F' cls dd k ds → E cls dd H'
  | .bad => False
/-- b: the arguments are but borrowed -/
def tA (c : Cfg) (E : XK) (b : Bool) (as : List Ar) : TA := fun σ H Q => ∃ F ρ s, Sim c σ H F ρ s ∧ PostA c E b H F Q (evs as ρ s)
section
variable {X : Cx} {c : Cfg} {E : XK} {κ : Kd} {a e : Expr} {es : List Expr} {f : EvF} {pos : Pos} {as : List Ar} {H F H' F' : Hp} {s s' : DS}
theorem PostA.mono {b : Bool} {Q Q' : List V → Hp → Prop} {r : Res (List D)} (h : PostA c E b H F Q r) (hq : ∀ v H', Q v H' → Q' v H') : PostA c E b H F Q' r := by
  cases r with
  | ok d s2 => exact fun v H2 F2 n2 r => hq _ _ (h v H2 F2 n2 r)
  | err k ds s2 => exact h
  | bad => exact h
theorem da_nil {b : Bool} : PA X [] (tA c E b []) := ⟨fun pos pins s σ H Q I h => by
  obtain ⟨F, ρ, d, sim, p⟩ := h
  exact pa_nil.run pos pins s σ H Q I (p [] H F (Next.refl sim.wf) (by split <;> constructor))⟩
theorem paired_next {vs : List V} {ds : List D} {H0 : Hp} (n : Next c H F H' F' s') (r : Paired (fun v d => RepK c .bor H0 F H v d) vs ds) : Paired (fun v d => RepK c .bor H0 F' H' v d) vs ds := Paired.mapP r fun v d h => h.next n
theorem paired_app {α β : Type} {R : α → β → Prop} : ∀ {xs xs' : List α} {ys ys' : List β}, Paired R xs ys → Paired R xs' ys' → Paired R (xs ++ xs') (ys ++ ys')
  | _, _, _, _, .nil, s => s
  | _, _, _, _, .cons r t, s => .cons r (paired_app t s)
theorem paired_of {vs : List V} {ds : List D} (r : Reps c F vs ds) : Paired (fun v d => RepK c .bor H' F H v d) vs ds := by
  induction vs generalizing ds with
  | nil => cases r; exact .nil
  | cons v t ih =>
    cases r with
    | cons h r => exact .cons (.inl h) (ih r)
/-- the first argument, then the rest -/
theorem PostA.bnd {b : Bool} {Q : List V → Hp → Prop} {m : M D} {g : D → M (List D)} (h : PostA c E b H F Q (m.bnd g s)) :
    Post c E κ H F (fun v H1 => ∃ d s1 F1, Next c H F H1 F1 s1 ∧ RepK c κ H F1 H1 v d ∧ PostA c E b H F Q (g d s1)) (m s) := by
  cases e : m s with
  | ok d s1 =>
    rw [bnd_ok e] at h
    exact fun v H1 F1 n r => ⟨d, s1, F1, n, r, h⟩
  | err k ds s1 => rw [bnd_err e] at h; exact h
  | bad => rw [bnd_bad e] at h; exact h
theorem PostA.rest {b : Bool} {Q : List V → Hp → Prop} {m : M (List D)} {g : List D → List D} {H1 F1 : Hp} {s1 : DS} (h : PostA c E b H F Q (m.bnd (fun ds => M.ret (g ds)) s1)) (n1 : Next c H F H1 F1 s1) :
    PostA c E b H1 F1 (fun vs H2 => ∃ ds s2 F2, Next c H1 F1 H2 F2 s2 ∧ (if b = true then Paired (fun v d => RepK c .bor H1 F2 H2 v d) vs ds else Reps c F2 vs ds) ∧
      ∀ us, (if b = true then Paired (fun v d => RepK c .bor H F2 H2 v d) us (g ds) else Reps c F2 us (g ds)) → Q us H2) (m s1) := by
  cases e : m s1 with
  | ok ds s2 =>
    rw [bnd_ok e] at h
    exact fun vs H2 F2 n2 r => ⟨ds, s2, F2, n2, r, fun us hu => h us H2 F2 (n1.trans n2) hu⟩
  | err k ds s2 =>
    rw [bnd_err e] at h
    exact fun cls dd H2 F2 n2 r => h cls dd H2 F2 (n1.trans n2) r
  | bad => rw [bnd_bad e] at h; exact h
theorem da_cons {b : Bool} (ha : PE X e (tK c E (if b then .bor else .val) f)) (hr : PA X es (tA c E b as)) (hs : starEach (e :: es) X.env = (false, eval e X.env) :: starEach es X.env) : PA X (e :: es) (tA c E b (.one f :: as)) := by
  refine ⟨fun pos pins st σ H Q I h => (pa_cons ha hr hs).run pos pins st σ H Q I ?_⟩
  obtain ⟨F, ρ, d, sim, p⟩ := h
  refine ⟨F, ρ, d, sim, (PostA.bnd (κ := if b then .bor else .val) p).mono fun v H1 ⟨x, s1, F1, n1, r1, p1⟩ => ?_⟩
  refine ⟨F1, ρ, s1, sim.next n1, (PostA.rest p1 n1).mono fun vs H2 ⟨ds, s2, F2, n2, r2, q⟩ => q _ ?_⟩
  cases b with
  | true =>
    have r1' : RepK c .bor H F1 H1 v x := r1
    exact .cons (r1'.next n2) r2
  | false =>
    have r1' : Rep c F1 v x := r1
    exact .cons (r1'.mono n2.leF) r2
theorem da_star {p : Pos} (hK : X.K = c.K) (ha : PE X e (tK c E .bor f)) (hr : PA X es (tA c E false as)) (hs : starEach (.Starred e p :: es) X.env = (true, eval e X.env) :: starEach es X.env) : PA X (.Starred e p :: es) (tA c E false (.star f :: as)) := by
  refine ⟨fun pos pins st σ H Q I h => (StX.pa_star ha hr hs).run pos pins st σ H Q I ?_⟩
  obtain ⟨F, ρ, d, sim, p⟩ := h
  refine ⟨F, ρ, d, sim, (PostA.bnd (κ := .bor) p).mono fun v H1 ⟨x, s1, F1, n1, r1, p1⟩ => ?_⟩
  cases x with
  | lst xs =>
    obtain ⟨q, ys, rfl, h1, h2⟩ := bor_lst n1.wf r1
    exact ⟨q, ys, rfl, .inr (SqL.of h1), F1, ρ, s1, sim.next n1, (PostA.rest (g := fun ds => xs ++ ds) p1 n1).mono fun vs H2 ⟨ds, s2, F2, n2, r2, qq⟩ => qq _ ((h2.mono n2.leF).append r2)⟩
  | tup xs =>
    obtain ⟨q, ys, rfl, h1, h2⟩ := bor_tup n1.wf r1
    exact ⟨q, ys, rfl, .inl (SqT.of h1), F1, ρ, s1, sim.next n1, (PostA.rest (g := fun ds => xs ++ ds) p1 n1).mono fun vs H2 ⟨ds, s2, F2, n2, r2, qq⟩ => qq _ ((h2.mono n2.leF).append r2)⟩
  | _ => exact p1.elim

/-! ### displays -/
def eTup (as : List Ar) : EvF := fun ρ => (evs as ρ).bnd fun ds => if ds.length ≤ line then M.ret (.tup ds) else bad
def eLst (as : List Ar) : EvF := fun ρ => (evs as ρ).bnd fun ds => if ds.length ≤ line then M.ret (.lst ds) else bad
theorem PostA.of {b : Bool} {Q : VK} {m : M (List D)} {g : List D → M D} (h : Post c E κ H F Q (m.bnd g s)) :
    PostA c E b H F (fun vs H1 => ∃ ds s1 F1, Next c H F H1 F1 s1 ∧ (if b = true then Paired (fun v d => RepK c .bor H F1 H1 v d) vs ds else Reps c F1 vs ds) ∧ Post c E κ H1 F1 Q (g ds s1)) (m s) := by
  cases e : m s with
  | ok ds s1 =>
    rw [bnd_ok e] at h
    exact fun v H1 F1 n r => ⟨ds, s1, F1, n, r, h.shift n⟩
  | err k ds s1 => rw [bnd_err e] at h; exact h
  | bad => rw [bnd_bad e] at h; exact h
theorem de_tup {j : Nat} (h : PA X es (tA c E false as)) : PE X (.Tuple es j pos) (tK c E κ (eTup as)) := (pe_tup h).imp fun σ H Q ⟨F, ρ, s, sim, p⟩ => ⟨F, ρ, s, sim, (PostA.of (b := false) p).mono fun vs H1 ⟨ds, s1, F1, n1, r1, p1⟩ => by
  have r1' : Reps c F1 vs ds := r1
  split at p1
  · rename_i hz
    exact ⟨by rw [r1'.length, sizeLine_eq]; exact hz, fun x hx => Cont.tup p1 n1.wf r1' hx⟩
  · exact p1.elim⟩
theorem de_lst (h : PA X es (tA c E false as)) : PE X (.List es pos) (tK c E .own (eLst as)) := (pe_lst h).imp fun σ H Q ⟨F, ρ, s, sim, p⟩ => ⟨F, ρ, s, sim, (PostA.of (b := false) p).mono fun vs H1 ⟨ds, s1, F1, n1, r1, p1⟩ => by
  have r1' : Reps c F1 vs ds := r1
  split at p1
  · rename_i hz
    exact ⟨by rw [r1'.length, sizeLine_eq]; exact hz, fun x hx => Cont.lst p1 n1.wf r1' hx⟩
  · exact p1.elim⟩

/-! ### built-ins -/
/-- a call of a built-in by data: g, the arguments borrowed -/
def rB (c : Cfg) (κ : Kd) (g : List D → Option D) : List V → Hp → VK → Prop := fun xs H Q => ∃ F s ds d, Wf c H F s ∧ Paired (fun v d => RepK c .bor H F H v d) xs ds ∧ g ds = some d ∧ Cont c κ H F s d Q
def eB (g : List D → Option D) (as : List Ar) : EvF := fun ρ => (evs as ρ).bnd fun ds => lift (g ds)
variable {g : List D → Option D}
theorem paired_shift {vs : List V} {ds : List D} {H0 H1 : Hp} (r : Paired (fun v d => RepK c .bor H0 F H v d) vs ds) : Paired (fun v d => RepK c .bor H1 F H v d) vs ds := Paired.mapP r fun _ _ h => h
theorem tB_of {σ : L2.St} {Q : VK} (h : tK c E κ (eB g as) σ H Q) : tCB (rB c κ g) (tA c E true as) σ H Q := by
  obtain ⟨F, ρ, s, sim, p⟩ := h
  refine ⟨F, ρ, s, sim, (PostA.of (b := true) p).mono fun vs H1 ⟨ds, s1, F1, n1, r1, p1⟩ => ?_⟩
  obtain ⟨d, ed, q⟩ := p1.end
  exact ⟨F1, s1, ds, d, n1.wf, paired_shift r1, ed, q⟩
theorem de_B {x : Str} {id : String} {p : Pos} (hc : CallR X (.builtin id) (rB c κ g)) (hg : Gl X x) (hm : X.mg x = none) (hv : bootBuiltins x = some (.builtin id)) (ha : PA X (e :: es) (tA c E true as)) (hn : x ≠ "__name__") (hdb : (x == ("__debug__" : Str)) = false)
    (he : starEach (e :: es) X.env = (false, eval e X.env) :: starEach es X.env) (hpl : (backTo pos (starEach es X.env)).any (·.1) = false) : PE X (.Call (.Name x p) (e :: es) [] pos) (tK c E κ (eB g as)) :=
  (pe_callB hc hg hm hv ha hn hdb he hpl).imp fun _ _ _ h => tB_of h
theorem de_Ty {x : Str} {id : String} {p : Pos} (hc : CallR X (.type id) (rB c κ g)) (hg : Gl X x) (hm : X.mg x = none) (hv : bootBuiltins x = some (.type id)) (ha : PA X (e :: es) (tA c E true as)) (hn : x ≠ "__name__") (hdb : (x == ("__debug__" : Str)) = false)
    (he : starEach (e :: es) X.env = (false, eval e X.env) :: starEach es X.env) (hpl : (backTo pos (starEach es X.env)).any (·.1) = false) : PE X (.Call (.Name x p) (e :: es) [] pos) (tK c E κ (eB g as)) :=
  (pe_callTy hc hg hm hv ha hn hdb he hpl).imp fun _ _ _ h => tB_of h
def one (g : D → Option D) : List D → Option D
  | [d] => g d
  | _ => none
theorem paired1 {xs : List V} {d : D} {R : V → D → Prop} (r : Paired R xs [d]) : ∃ x, xs = [x] ∧ R x d := by
  cases r with
  | cons h t => cases t; exact ⟨_, rfl, h⟩
theorem paired2 {xs : List V} {d d' : D} {R : V → D → Prop} (r : Paired R xs [d, d']) : ∃ x y, xs = [x, y] ∧ R x d ∧ R y d' := by
  cases r with
  | cons h t =>
    cases t with
    | cons h' t => cases t; exact ⟨_, _, rfl, h, h'⟩
/-- len -/
theorem cB_len (hK : X.K = c.K) : CallR X (.builtin "len") (rB c .own (one lenD)) := by
  intro pins s σ H xs us Q I r h
  obtain ⟨F, ds0, ds, d, wf, rs, e, q⟩ := h
  match ds, e with
  | [d1], e =>
    have e : lenD d1 = some d := e
    obtain ⟨x, rfl, r1⟩ := paired1 rs
    unfold lenD at e
    split at e
    · cases e
      obtain ⟨p, ys, rfl, h1, h2⟩ := bor_lst wf r1
      exact call_len_seq pins s σ H _ us Q I r ⟨p, ys, rfl, .inl (SqL.of h1), by rw [h2.length]; exact q.same wf (.int _)⟩
    · cases e
      obtain ⟨p, ys, rfl, h1, h2⟩ := bor_tup wf r1
      exact call_len_seq pins s σ H _ us Q I r ⟨p, ys, rfl, .inr (SqT.of h1), by rw [h2.length]; exact q.same wf (.int _)⟩
    · rename_i es _
      cases e
      obtain ⟨p, kvs, rfl, h1, h2, h3⟩ := bor_dK wf r1
      obtain ⟨u, rfl, rx⟩ := vals1 r
      cases rx
      have hl : kvs.length = es.length := by have := congrArg List.length h2; simpa using this
      refine d_len I (.inl h1) fun t s' I' => ⟨.int kvs.length, H, I', ⟨t, rfl⟩, ?_⟩
      rw [hl]
      exact q.same wf (.int _)
    · cases e
      obtain ⟨p, rfl, h1⟩ := bor_scr wf r1
      rw [← hK] at h1
      refine call_len_seq pins s σ H _ us Q I r ⟨p, _, rfl, .inl h1, ?_⟩
      rw [List.length_map]
      exact q.same wf (.int _)
    · cases e
  | [], e => cases e
  | _ :: _ :: _, e => cases e
/-- one argument: by cases upon it -/
theorem cB_one {fv : Value} {g : D → Option D} (h : ∀ (pins : List (Addr × Obj)) (s : Shared) (σ : L2.St) (H F : Hp) (ds : DS) (x : V) (us : List Value) (Q : VK) (d1 d : D), Inv X pins σ H s → Wf c H F ds → Vals [x] us → RepK c .bor H F H x d1 → g d1 = some d → Cont c κ H F ds d Q →
    wpAny (model X.prog X.w) X.A (call fv us) (EP X pins σ Q) X.xe s) : CallR X fv (rB c κ (one g)) := by
  intro pins s σ H xs us Q I r hh
  obtain ⟨F, ds0, ds, d, wf, rs, e, q⟩ := hh
  match ds, e with
  | [d1], e =>
    obtain ⟨x, rfl, r1⟩ := paired1 rs
    exact h pins s σ H F ds0 x us Q d1 d I wf r r1 e q
  | [], e => cases e
  | _ :: _ :: _, e => cases e
def listD : D → Option D
  | .lst ds => some (.lst ds)
  | .tup ds => some (.lst ds)
  | .scr ns => some (.lst (ns.map .int))
  | _ => none
theorem cB_list (hK : X.K = c.K) : CallR X (.type "list") (rB c .own (one listD)) := cB_one fun pins s σ H F ds x us Q d1 d I wf r r1 e q => by
  unfold listD at e
  split at e <;> cases e
  · obtain ⟨p, ys, rfl, h1, h2⟩ := bor_lst wf r1
    exact call_list_of pins s σ H _ us Q I r ⟨p, ys, rfl, .inl (SqL.of h1), fun l hl => q.lst wf h2 hl⟩
  · obtain ⟨p, ys, rfl, h1, h2⟩ := bor_tup wf r1
    exact call_list_of pins s σ H _ us Q I r ⟨p, ys, rfl, .inr (SqT.of h1), fun l hl => q.lst wf h2 hl⟩
  · obtain ⟨p, rfl, h1⟩ := bor_scr wf r1
    rw [← hK] at h1
    exact call_list_of pins s σ H _ us Q I r ⟨p, _, rfl, .inl h1, fun l hl => q.lst wf (Reps.ofInts _) hl⟩
def tupleD : D → Option D
  | .lst ds => some (.tup ds)
  | .tup ds => some (.tup ds)
  | _ => none
theorem cB_tuple : CallR X (.type "tuple") (rB c κ (one tupleD)) := cB_one fun pins s σ H F ds x us Q d1 d I wf r r1 e q => by
  unfold tupleD at e
  split at e <;> cases e
  · obtain ⟨p, ys, rfl, h1, h2⟩ := bor_lst wf r1
    exact call_tuple_of pins s σ H _ us Q I r ⟨p, ys, rfl, .inl ⟨SqL.of h1, fun l hl => q.tup wf h2 hl⟩⟩
  · obtain ⟨p, ys, rfl, h1, h2⟩ := bor_tup wf r1
    refine call_tuple_of pins s σ H _ us Q I r ⟨p, ys, rfl, .inr ⟨SqT.of h1, ?_⟩⟩
    rcases r1 with r1 | ⟨_, _, _, _, z⟩
    · exact q.same wf r1
    · exact z.elim
def seqOf : D → Option (List D)
  | .lst ds => some ds
  | .tup ds => some ds
  | _ => none
def allD (d : D) : Option D := match d with
  | .lst ds => (bools ds).map fun bs => .bl (bs.all id)
  | _ => none
def anyD (d : D) : Option D := match d with
  | .lst ds => (bools ds).map fun bs => .bl (bs.any id)
  | _ => none
theorem cB_all (hc : X.calm = true) : CallR X (.builtin "all") (rB c .own (one allD)) := cB_one fun pins s σ H F ds x us Q d1 d I wf r r1 e q => by
  unfold allD at e
  split at e
  · obtain ⟨bs, hb, rfl⟩ := Option.map_eq_some_iff.mp e
    obtain ⟨p, ys, rfl, h1, h2⟩ := bor_lst wf r1
    have hy := h2.bls hb
    subst hy
    exact cr_all hc pins s σ H _ us Q I r ⟨p, bs, rfl, SqL.of h1, q.same wf (.bl _)⟩
  · cases e
theorem cB_any (hc : X.calm = true) : CallR X (.builtin "any") (rB c .own (one anyD)) := cB_one fun pins s σ H F ds x us Q d1 d I wf r r1 e q => by
  unfold anyD at e
  split at e
  · obtain ⟨bs, hb, rfl⟩ := Option.map_eq_some_iff.mp e
    obtain ⟨p, ys, rfl, h1, h2⟩ := bor_lst wf r1
    have hy := h2.bls hb
    subst hy
    exact cr_any hc pins s σ H _ us Q I r ⟨p, bs, rfl, SqL.of h1, q.same wf (.bl _)⟩
  · cases e
def sumD (d : D) : Option D := match d with
  | .lst ds => (intsD ds).map fun is => .int is.sum
  | _ => none
theorem cB_sum (hc : X.calm = true) : CallR X (.builtin "sum") (rB c .own (one sumD)) := cB_one fun pins s σ H F ds x us Q d1 d I wf r r1 e q => by
  unfold sumD at e
  split at e
  · obtain ⟨bs, hb, rfl⟩ := Option.map_eq_some_iff.mp e
    obtain ⟨p, ys, rfl, h1, h2⟩ := bor_lst wf r1
    have hy := h2.ints hb
    subst hy
    exact cr_sum hc pins s σ H _ us Q I r ⟨p, bs, rfl, SqL.of h1, q.same wf (.int _)⟩
  · cases e
theorem foldmax (is : List Int) : ∀ a : Int, a ≤ is.foldl (fun m x => if x > m then x else m) a ∧ (∀ j ∈ is, j ≤ is.foldl (fun m x => if x > m then x else m) a) ∧ (is.foldl (fun m x => if x > m then x else m) a = a ∨ is.foldl (fun m x => if x > m then x else m) a ∈ is) := by
  induction is with
  | nil => intro a; exact ⟨Int.le_refl _, fun _ h => by simp at h, .inl rfl⟩
  | cons x r ih =>
    intro a
    obtain ⟨h1, h2, h3⟩ := ih (if x > a then x else a)
    simp only [List.foldl_cons]
    refine ⟨?_, fun j hj => ?_, ?_⟩
    · have : a ≤ (if x > a then x else a) := by split <;> omega
      omega
    · rcases List.mem_cons.mp hj with rfl | hj
      · have : j ≤ (if j > a then j else a) := by split <;> omega
        omega
      · exact h2 j hj
    · rcases h3 with h3 | h3
      · rw [h3]
        split
        · exact .inr List.mem_cons_self
        · exact .inl rfl
      · exact .inr (List.mem_cons_of_mem _ h3)
theorem foldmin (is : List Int) : ∀ a : Int, is.foldl (fun m x => if x < m then x else m) a ≤ a ∧ (∀ j ∈ is, is.foldl (fun m x => if x < m then x else m) a ≤ j) ∧ (is.foldl (fun m x => if x < m then x else m) a = a ∨ is.foldl (fun m x => if x < m then x else m) a ∈ is) := by
  induction is with
  | nil => intro a; exact ⟨Int.le_refl _, fun _ h => by simp at h, .inl rfl⟩
  | cons x r ih =>
    intro a
    obtain ⟨h1, h2, h3⟩ := ih (if x < a then x else a)
    simp only [List.foldl_cons]
    refine ⟨?_, fun j hj => ?_, ?_⟩
    · have : (if x < a then x else a) ≤ a := by split <;> omega
      omega
    · rcases List.mem_cons.mp hj with rfl | hj
      · have : (if j < a then j else a) ≤ j := by split <;> omega
        omega
      · exact h2 j hj
    · rcases h3 with h3 | h3
      · rw [h3]
        split
        · exact .inr List.mem_cons_self
        · exact .inl rfl
      · exact .inr (List.mem_cons_of_mem _ h3)
theorem maxI_spec {is : List Int} {m : Int} (h : maxI is = some m) : m ∈ is ∧ ∀ j ∈ is, j ≤ m := by
  cases is with
  | nil => cases h
  | cons a r =>
    cases h
    obtain ⟨h1, h2, h3⟩ := foldmax r a
    refine ⟨?_, fun j hj => ?_⟩
    · rcases h3 with h3 | h3
      · rw [h3]; exact List.mem_cons_self
      · exact List.mem_cons_of_mem _ h3
    · rcases List.mem_cons.mp hj with rfl | hj
      · exact h1
      · exact h2 j hj
theorem minI_spec {is : List Int} {m : Int} (h : minI is = some m) : m ∈ is ∧ ∀ j ∈ is, m ≤ j := by
  cases is with
  | nil => cases h
  | cons a r =>
    cases h
    obtain ⟨h1, h2, h3⟩ := foldmin r a
    refine ⟨?_, fun j hj => ?_⟩
    · rcases h3 with h3 | h3
      · rw [h3]; exact List.mem_cons_self
      · exact List.mem_cons_of_mem _ h3
    · rcases List.mem_cons.mp hj with rfl | hj
      · exact h1
      · exact h2 j hj
/-- max, min: of one list of numbers, of two numbers -/
def maxD : List D → Option D
  | [.lst ds] => (intsD ds).bind fun is => (maxI is).map .int
  | [.int i, .int j] => some (.int (if j > i then j else i))
  | _ => none
def minD : List D → Option D
  | [.lst ds] => (intsD ds).bind fun is => (minI is).map .int
  | [.int i, .int j] => some (.int (if j < i then j else i))
  | _ => none
theorem cB_max (hc : X.calm = true) : CallR X (.builtin "max") (rB c .own maxD) := by
  intro pins s σ H xs us Q I r h
  obtain ⟨F, ds0, ds, d, wf, rs, e, q⟩ := h
  unfold maxD at e
  split at e
  · obtain ⟨x, rfl, r1⟩ := paired1 rs
    obtain ⟨is, hi, e2⟩ := Option.bind_eq_some_iff.mp e
    obtain ⟨m, hm, rfl⟩ := Option.map_eq_some_iff.mp e2
    obtain ⟨p, ys, rfl, h1, h2⟩ := bor_lst wf r1
    have hy := h2.ints hi
    subst hy
    obtain ⟨m1, m2⟩ := maxI_spec hm
    refine cr_max hc pins s σ H _ us Q I r ⟨p, is, rfl, SqL.of h1, List.length_pos_of_mem m1, fun m' k1 k2 => ?_⟩
    have e1 := k2 m m1
    have e2 := m2 m' k1
    have e3 : m' = m := by omega
    subst e3
    exact q.same wf (.int _)
  · cases e
    obtain ⟨x, y, rfl, r1, r2⟩ := paired2 rs
    cases bor_int r1; cases bor_int r2
    exact call_max2 hc pins s σ H _ us Q I r ⟨_, _, rfl, q.same wf (.int _)⟩
  · cases e
theorem cB_min (hc : X.calm = true) : CallR X (.builtin "min") (rB c .own minD) := by
  intro pins s σ H xs us Q I r h
  obtain ⟨F, ds0, ds, d, wf, rs, e, q⟩ := h
  unfold minD at e
  split at e
  · obtain ⟨x, rfl, r1⟩ := paired1 rs
    obtain ⟨is, hi, e2⟩ := Option.bind_eq_some_iff.mp e
    obtain ⟨m, hm, rfl⟩ := Option.map_eq_some_iff.mp e2
    obtain ⟨p, ys, rfl, h1, h2⟩ := bor_lst wf r1
    have hy := h2.ints hi
    subst hy
    obtain ⟨m1, m2⟩ := minI_spec hm
    refine cr_min hc pins s σ H _ us Q I r ⟨p, is, rfl, SqL.of h1, List.length_pos_of_mem m1, fun m' k1 k2 => ?_⟩
    have e1 := k2 m m1
    have e2 := m2 m' k1
    have e3 : m' = m := by omega
    subst e3
    exact q.same wf (.int _)
  · cases e
    obtain ⟨x, y, rfl, r1, r2⟩ := paired2 rs
    cases bor_int r1; cases bor_int r2
    exact call_min2 hc pins s σ H _ us Q I r ⟨_, _, rfl, q.same wf (.int _)⟩
  · cases e
def absD : D → Option D
  | .int i => some (.int (if i < 0 then -i else i))
  | _ => none
theorem cB_abs : CallR X (.builtin "abs") (rB c .own (one absD)) := cB_one fun pins s σ H F ds x us Q d1 d I wf r r1 e q => by
  unfold absD at e
  split at e <;> cases e
  cases bor_int r1
  exact call_abs pins s σ H _ us Q I r ⟨_, rfl, q.same wf (.int _)⟩
def intD : D → Option D
  | .int i => some (.int i)
  | .bl b => some (.int (if b then 1 else 0))
  | _ => none
theorem cB_int : CallR X (.type "int") (rB c .own (one intD)) := cB_one fun pins s σ H F ds x us Q d1 d I wf r r1 e q => by
  unfold intD at e
  split at e <;> cases e
  · cases bor_int r1
    exact call_int1 pins s σ H _ us Q I r (.inl ⟨_, rfl, q.same wf (.int _)⟩)
  · cases bor_bl r1
    exact call_int1 pins s σ H _ us Q I r (.inr ⟨_, rfl, q.same wf (.int _)⟩)

/-! ### slices -/
/-- an end of a slice -/
def evEnd : Option EvF → Env → M (Option Int)
  | none, _ => M.ret none
  | some f, ρ => (f ρ).bnd fun d => match d with
    | .int i => M.ret (some i)
    | _ => bad
def eCut (fa : EvF) (lo hi : Option EvF) : EvF := fun ρ => (fa ρ).bnd fun d => (evEnd lo ρ).bnd fun l => (evEnd hi ρ).bnd fun u => lift (cutD d l u)
def PostO (c : Cfg) (E : XK) (H F : Hp) (Q : Option Int → Hp → Prop) : Res (Option Int) → Prop
  | .ok o s' => ∀ H' F', Next c H F H' F' s' → Q o H'
  | .err k ds s' => ∀ cls dd H' F', Next c H F H' F' s' → ErrRep c F' cls dd k ds → E cls dd H'
  | .bad => False
def tO (c : Cfg) (E : XK) (o : Option EvF) : TO := fun σ H Q => ∃ F ρ s, Sim c σ H F ρ s ∧ PostO c E H F Q (evEnd o ρ s)
theorem PostO.mono {Q Q' : Option Int → Hp → Prop} {r : Res (Option Int)} (h : PostO c E H F Q r) (hq : ∀ v H', Q v H' → Q' v H') : PostO c E H F Q' r := by
  cases r with
  | ok d s2 => exact fun H2 F2 n2 => hq _ _ (h H2 F2 n2)
  | err k ds s2 => exact h
  | bad => exact h
theorem PostO.bnd {Q : VK} {m : M (Option Int)} {g : Option Int → M D} (h : Post c E κ H F Q (m.bnd g s)) : PostO c E H F (fun o H1 => ∃ s1 F1, Next c H F H1 F1 s1 ∧ Post c E κ H1 F1 Q (g o s1)) (m s) := by
  cases e : m s with
  | ok d s1 =>
    rw [bnd_ok e] at h
    exact fun H1 F1 n => ⟨s1, F1, n, h.shift n⟩
  | err k ds s1 => rw [bnd_err e] at h; exact h
  | bad => rw [bnd_bad e] at h; exact h
theorem do_none : PO X none (tO c E none) := ⟨fun pins s σ H Q I h => by
  obtain ⟨F, ρ, d, sim, p⟩ := h
  exact po_none.run pins s σ H Q I (p H F (Next.refl sim.wf))⟩
theorem do_some (ha : PE X e (tK c E .bor f)) : PO X (some e) (tO c E (some f)) := ⟨fun pins s σ H Q I h => by
  obtain ⟨F, ρ, d, sim, p⟩ := h
  refine (po_some ha).run pins s σ H Q I ⟨F, ρ, d, sim, ?_⟩
  have p : PostO c E H F Q ((f ρ).bnd (fun d => match d with
    | .int i => M.ret (some i)
    | _ => bad) d) := p
  cases e : f ρ d with
  | ok x s1 =>
    rw [bnd_ok e] at p
    intro v H1 F1 n r
    cases x with
    | int i =>
      cases bor_int r
      exact ⟨i, rfl, p H1 F1 n⟩
    | _ => exact p.elim
  | err k ds s1 => rw [bnd_err e] at p; exact p
  | bad => rw [bnd_bad e] at p; exact p⟩
def rSlD (c : Cfg) (κ : Kd) : V → Option Int → Option Int → Hp → VK → Prop := fun x lo hi H Q => ∃ F s d1 d, Wf c H F s ∧ RepK c .bor H F H x d1 ∧ cutD d1 lo hi = some d ∧ Cont c κ H F s d Q
theorem reps_cut {vs : List V} {ds : List D} (r : Reps c F vs ds) (lo hi : Option Int) : Reps c F (cutV vs lo hi) (cutL ds lo hi) := by
  unfold cutV cutL
  rw [r.length]
  exact (r.drop _).take _
theorem slD : SlR X (rSlD c .own) := by
  intro pins s σ H x v vl vu lo hi sl Q I rx hs pl pu h
  obtain ⟨F, ds, d1, d, wf, r1, e, q⟩ := h
  unfold cutD at e
  split at e <;> cases e
  · obtain ⟨p, xs, rfl, h1, h2⟩ := bor_lst wf r1
    exact sl_list pins s σ H _ v vl vu lo hi sl Q I rx hs pl pu ⟨p, xs, rfl, SqL.of h1, fun y hy => q.lst wf (reps_cut h2 lo hi) hy⟩
  · rename_i ds1
    obtain ⟨p, xs, rfl, h1, h2⟩ := bor_tup wf r1
    refine sl_tupA pins s σ H _ v vl vu lo hi sl Q I rx hs pl pu ⟨p, xs, rfl, SqT.of h1, fun hw => ?_, fun _ y hy => q.tup wf (reps_cut h2 lo hi) hy⟩
    have e1 : cutL ds1 lo hi = ds1 := by
      unfold cutL
      rw [← h2.length, hw.1, hw.2, List.drop_zero, Nat.sub_zero]
      exact List.take_of_length_le (by rw [h2.length]; exact Nat.le_refl _)
    rw [e1] at q
    rcases r1 with r1 | ⟨_, _, _, _, z⟩
    · exact q.same wf r1
    · exact z.elim
theorem de_cut {lo hi : Option Expr} {flo fhi : Option EvF} {p2 : Pos} (he : PE X e (tK c E .bor f)) (hl : PO X lo (tO c E flo)) (hu : PO X hi (tO c E fhi)) : PE X (.Subscript e (.Slice lo hi none p2) pos) (tK c E .own (eCut f flo fhi)) :=
  (pe_slice slD he hl hu).imp fun σ H Q ⟨F, ρ, s, sim, p⟩ => by
    refine ⟨F, ρ, s, sim, (Post.bnd (κ' := .bor) p).mono fun x H1 ⟨d1, s1, F1, n1, r1, p1⟩ => ?_⟩
    refine ⟨F1, ρ, s1, sim.next n1, (PostO.bnd p1).mono fun l H2 ⟨s2, F2, n2, p2⟩ => ?_⟩
    refine ⟨F2, ρ, s2, (sim.next n1).next n2, (PostO.bnd p2).mono fun u H3 ⟨s3, F3, n3, p3⟩ => ?_⟩
    obtain ⟨d, ed, q⟩ := p3.end
    exact ⟨F3, s3, d1, d, n3.wf, (r1.next n2).next n3, ed, q⟩
end
end Mn

/-! Mn7: what is walked, targets, comprehensions. -/
namespace Mn
open PySem PySem.Spec PyProof.Rows L2

/-! ### sources -/
/-- the iterator gives the items ds, while A holds -/
structure Gives (c : Cfg) (J : It) (A : Hp → Hp → Prop) (ds : List D) : Prop where
  len : ds.length ≤ line
  go : ∀ i H F, A H F → i < ds.length → J.go i H
  stop : ∀ i H F, A H F → ds.length ≤ i → J.stop i H
  yld : ∀ i H F s x H', A H F → Wf c H F s → i < ds.length → J.yld i H x H' → ∃ d F', ds[i]? = some d ∧ Next c H F H' F' s ∧ Rep c F' x d
/-- while what was known at the start is known; m: and all that stood stands -/
def AM (c : Cfg) (m : Bool) (H0 F0 : Hp) : Hp → Hp → Prop := fun H F => Same F0 F ∧ Same F H ∧ (m = true → ∀ a o, H0 a = some o → ¬ isDr c a → H a = some o)
def PostI (c : Cfg) (E : XK) (m : Bool) (H F : Hp) (R : It → Hp → Prop) : Res (List D) → Prop
  | .ok ds s' => ∀ J H' F', Next c H F H' F' s' → Gives c J (AM c m H' F') ds → R J H'
  | .err k ds s' => ∀ cls dd H' F', Next c H F H' F' s' → ErrRep c F' cls dd k ds → E cls dd H'
  | .bad => False
abbrev SrF := Env → M (List D)
def tI (c : Cfg) (E : XK) (m : Bool) (f : SrF) : TI := fun σ H R => ∃ F ρ s, Sim c σ H F ρ s ∧ PostI c E m H F R (f ρ s)
section
variable {X : Cx} {c : Cfg} {E : XK} {κ : Kd} {a b e tg : Expr} {es : List Expr} {f fa fb : EvF} {pos : Pos} {as : List Ar} {H F H' F' H0 F0 : Hp} {s s' : DS} {m : Bool}
theorem PostI.mono {R R' : It → Hp → Prop} {r : Res (List D)} (h : PostI c E m H F R r) (hq : ∀ v H', R v H' → R' v H') : PostI c E m H F R' r := by
  cases r with
  | ok d s2 => exact fun v H2 F2 n2 r => hq _ _ (h v H2 F2 n2 r)
  | err k ds s2 => exact h
  | bad => exact h
theorem PostI.bnd {R : It → Hp → Prop} {mm : M D} {g : D → M (List D)} (h : PostI c E m H F R (mm.bnd g s)) :
    Post c E κ H F (fun v H1 => ∃ d s1 F1, Next c H F H1 F1 s1 ∧ RepK c κ H F1 H1 v d ∧ PostI c E m H F R (g d s1)) (mm s) := by
  cases e : mm s with
  | ok d s1 =>
    rw [bnd_ok e] at h
    exact fun v H1 F1 n r => ⟨d, s1, F1, n, r, h⟩
  | err k ds s1 => rw [bnd_err e] at h; exact h
  | bad => rw [bnd_bad e] at h; exact h
theorem PostI.of {b : Bool} {R : It → Hp → Prop} {mm : M (List D)} {g : List D → M (List D)} (h : PostI c E m H F R (mm.bnd g s)) :
    PostA c E b H F (fun vs H1 => ∃ ds s1 F1, Next c H F H1 F1 s1 ∧ (if b = true then Paired (fun v d => RepK c .bor H F1 H1 v d) vs ds else Reps c F1 vs ds) ∧ PostI c E m H F R (g ds s1)) (mm s) := by
  cases e : mm s with
  | ok ds s1 =>
    rw [bnd_ok e] at h
    exact fun v H1 F1 n r => ⟨ds, s1, F1, n, r, h⟩
  | err k ds s1 => rw [bnd_err e] at h; exact h
  | bad => rw [bnd_bad e] at h; exact h
theorem PostI.end {R : It → Hp → Prop} {r : Option (List D)} (h : PostI c E m H F R (lift r s)) : ∃ ds, r = some ds ∧ ∀ J H' F', Next c H F H' F' s → Gives c J (AM c m H' F') ds → R J H' := by
  cases r with
  | none => exact h.elim
  | some d => exact ⟨d, rfl, h⟩
/-- a list or a tuple stands while A holds -/
theorem gives_lst {A : Hp → Hp → Prop} {p : Addr} {xs : List V} {ds : List D} {K : PySem.W.Frag} (inj : ∀ H ys, SqL K H p ys → H p = some (.lst xs) → ys = xs) (hl : xs.length ≤ line) (st : ∀ H F, A H F → H p = some (.lst xs) ∧ Reps c F xs ds) (hlen : xs.length = ds.length) : Gives c (Itl K p) A ds where
  len := by rw [← hlen]; exact hl
  go := fun i H F a hi => by
    obtain ⟨h1, h2⟩ := st H F a
    rw [← hlen] at hi
    exact ⟨xs, xs[i], SqL.of h1, List.getElem?_eq_getElem hi⟩
  stop := fun i H F a hi => by
    obtain ⟨h1, h2⟩ := st H F a
    exact ⟨xs, SqL.of h1, by rw [hlen]; exact hi⟩
  yld := fun i H F s x H' a w hi h => by
    obtain ⟨h1, h2⟩ := st H F a
    obtain ⟨rfl, hx⟩ := h
    obtain ⟨d, e1, e2⟩ := h2.get (hx xs (SqL.of h1))
    exact ⟨d, F, e1, Next.refl w, e2⟩
theorem gives_tup {A : Hp → Hp → Prop} {p : Addr} {xs : List V} {ds : List D} {K : PySem.W.Frag} (hl : xs.length ≤ line) (st : ∀ H F, A H F → H p = some (.tup xs) ∧ Reps c F xs ds) (hlen : xs.length = ds.length) : Gives c (Itt K p) A ds where
  len := by rw [← hlen]; exact hl
  go := fun i H F a hi => by
    obtain ⟨h1, h2⟩ := st H F a
    rw [← hlen] at hi
    exact ⟨xs, xs[i], SqT.of h1, List.getElem?_eq_getElem hi⟩
  stop := fun i H F a hi => by
    obtain ⟨h1, h2⟩ := st H F a
    exact ⟨xs, SqT.of h1, by rw [hlen]; exact hi⟩
  yld := fun i H F s x H' a w hi h => by
    obtain ⟨h1, h2⟩ := st H F a
    obtain ⟨rfl, hx⟩ := h
    obtain ⟨d, e1, e2⟩ := h2.get (hx xs (SqT.of h1))
    exact ⟨d, F, e1, Next.refl w, e2⟩
/-- .. as AM has it: a borrowed list, a known one -/
theorem am_lst {v : V} {ds : List D} (hm : m = false → Rep c F v (.lst ds)) (w : Wf c H F s) (r : RepK c .bor H0 F H v (.lst ds)) : ∃ p xs, v = .ref p ∧ H p = some (.lst xs) ∧ Reps c F xs ds ∧ ∀ H' F', AM c m H F H' F' → H' p = some (.lst xs) ∧ Reps c F' xs ds := by
  rcases r with r | ⟨p, rfl, h0, h1, xs, h2, h3⟩
  · cases r with
    | lst h r => exact ⟨_, _, rfl, w.sub _ _ h, r, fun H' F' a => ⟨a.2.1 _ _ (a.1 _ _ h), r.mono a.1⟩⟩
  · cases m with
    | true => exact ⟨p, xs, rfl, h2, h3, fun H' F' a => ⟨a.2.2 rfl p _ h2 h1, h3.mono a.1⟩⟩
    | false =>
      have z := hm rfl
      cases z with
      | lst h r => rw [h0] at h; cases h
theorem am_tup {v : V} {ds : List D} (w : Wf c H F s) (r : RepK c .bor H0 F H v (.tup ds)) : ∃ p xs, v = .ref p ∧ H p = some (.tup xs) ∧ Reps c F xs ds ∧ ∀ H' F', AM c m H F H' F' → H' p = some (.tup xs) ∧ Reps c F' xs ds := by
  rcases r with r | ⟨_, _, _, _, z⟩
  · cases r with
    | tup h r => exact ⟨_, _, rfl, w.sub _ _ h, r, fun H' F' a => ⟨a.2.1 _ _ (a.1 _ _ h), r.mono a.1⟩⟩
  · exact z.elim
abbrev kdm (m : Bool) : Kd := if m then .bor else .val
theorem kdm_bor {v : V} {d : D} (r : RepK c (kdm m) H0 F H v d) : RepK c .bor H0 F H v d := by
  cases m with
  | true => exact r
  | false => exact .inl r
theorem kdm_val {v : V} {d : D} (r : RepK c (kdm m) H0 F H v d) (e : m = false) : Rep c F v d := by
  subst e; exact r
def seqItems : D → Option (List D)
  | .lst ds => some ds
  | .tup ds => some ds
  | .scr ns => some (ns.map .int)
  | _ => none
def sSeq (f : EvF) : SrF := fun ρ => (f ρ).bnd fun d => lift (seqItems d)
/-- a list, a tuple -/
theorem di_seq (hK : X.K = c.K) (he : PE X e (tK c E (kdm m) f)) : PI X tg e (tI c E m (sSeq f)) := by
  refine ⟨fun pins st σ H R I h => ?_⟩
  obtain ⟨F, ρ, s, sim, p⟩ := h
  have p : PostI c E m H F R ((f ρ).bnd (fun d => lift (seqItems d)) s) := p
  refine thn (he.run pins st σ H _ I ⟨F, ρ, s, sim, PostI.bnd (κ := kdm m) p⟩) fun u s1 ⟨x, H1, I1, r1, d, s2, F1, n1, r, p1⟩ => ?_
  obtain ⟨ds, ed, q⟩ := p1.end
  cases d with
  | lst es =>
    have e0 : es = ds := Option.some.inj ed
    subst e0
    obtain ⟨pp, xs, rfl, h1, h2, h3⟩ := am_lst (kdm_val r) n1.wf (kdm_bor r)
    cases r1
    obtain ⟨its, rv, pl, hz⟩ := I1.list (SqL.of h1)
    have hf := I1.hok.fresh (Nat.le_refl _)
    have g : Gives c (Itl X.K pp) (AM c m H1 F1) es := {
      len := by rw [← h2.length]; rw [sizeLine_eq] at hz; exact hz
      go := fun i H2 F2 a hi => by
        obtain ⟨e1, e2⟩ := h3 H2 F2 a
        rw [← h2.length] at hi
        exact ⟨xs, xs[i], SqL.of e1, List.getElem?_eq_getElem hi⟩
      stop := fun i H2 F2 a hi => by
        obtain ⟨e1, e2⟩ := h3 H2 F2 a
        exact ⟨xs, SqL.of e1, by rw [h2.length]; exact hi⟩
      yld := fun i H2 F2 s x H' a w hi h => by
        obtain ⟨e1, e2⟩ := h3 H2 F2 a
        obtain ⟨rfl, hx⟩ := h
        obtain ⟨d, e3, e4⟩ := e2.get (hx xs (SqL.of e1))
        exact ⟨d, F2, e3, Next.refl w, e4⟩ }
    refine wpAny_pyIter_list pl.isList ?_
    refine ⟨s1.heap.objs.size, [s1.heap.objs.size], _, _, H1, rfl, I1.kept (t' := s1.toks) fun b o e => Heap.get?_push_of_some _ e, turn_list pp _, ⟨_, Heap.get?_push_size _ rfl, rfl, rfl⟩, fun b hb => ?_, q _ _ _ n1 g⟩
    have e : b = s1.heap.objs.size := by simpa using hb
    subst e
    exact I1.fpOk (Nat.le_refl _) hf
  | tup es =>
    have e0 : es = ds := Option.some.inj ed
    subst e0
    obtain ⟨pp, xs, rfl, h1, h2, h3⟩ := am_tup (m := m) n1.wf (kdm_bor r)
    cases r1
    obtain ⟨its, rv, pl, hz⟩ := I1.tuple (SqT.of h1)
    have g : Gives c (Itt X.K pp) (AM c m H1 F1) es := gives_tup (by rw [sizeLine_eq] at hz; exact hz) h3 h2.length
    refine wpAny_pyIter_tuple pl ?_
    refine ⟨s1.heap.objs.size, [s1.heap.objs.size], _, _, H1, rfl, I1.kept (t' := s1.toks) fun b o e => Heap.get?_push_of_some _ e, turn_tuple pp _, ⟨_, Heap.get?_push_size _ rfl, rfl, rfl⟩, fun b hb => ?_, q _ _ _ n1 g⟩
    have e : b = s1.heap.objs.size := by simpa using hb
    subst e
    exact I1.fpOk (Nat.le_refl _) (I1.hok.fresh (Nat.le_refl _))
  | scr ns =>
    cases ed
    obtain ⟨pp, rfl, h1⟩ := bor_scr n1.wf (kdm_bor r)
    have h2 : SqL c.K F1 pp (ns.map V.int) := by
      rcases kdm_bor r with r' | ⟨_, _, _, _, z⟩
      · cases r' with
        | scr h => exact h
      · exact z.elim
    rw [← hK] at h1 h2
    cases r1
    obtain ⟨its, rv, pl, hz⟩ := I1.list h1
    have g : Gives c (Itl X.K pp) (AM c m H1 F1) (ns.map D.int) := {
      len := by rw [sizeLine_eq, List.length_map] at hz; rw [List.length_map]; exact hz
      go := fun i H2 F2 a hi => by
        have e1 := same_seqL a.2.1 (same_seqL a.1 h2)
        rw [List.length_map] at hi
        exact ⟨_, V.int ns[i], e1, by rw [List.getElem?_map, List.getElem?_eq_getElem hi]; rfl⟩
      stop := fun i H2 F2 a hi => by
        have e1 := same_seqL a.2.1 (same_seqL a.1 h2)
        exact ⟨_, e1, by rw [List.length_map] at hi ⊢; exact hi⟩
      yld := fun i H2 F2 s x H' a w hi h => by
        have e1 := same_seqL a.2.1 (same_seqL a.1 h2)
        obtain ⟨rfl, hx⟩ := h
        obtain ⟨d, e3, e4⟩ := (Reps.ofInts (c := c) (F := F2) ns).get (hx _ e1)
        exact ⟨d, F2, e3, Next.refl w, e4⟩ }
    refine wpAny_pyIter_list pl.isList ?_
    refine ⟨s1.heap.objs.size, [s1.heap.objs.size], _, _, H1, rfl, I1.kept (t' := s1.toks) fun b o e => Heap.get?_push_of_some _ e, turn_list pp _, ⟨_, Heap.get?_push_size _ rfl, rfl, rfl⟩, fun b hb => ?_, q _ _ _ n1 g⟩
    have e : b = s1.heap.objs.size := by simpa using hb
    subst e
    exact I1.fpOk (Nat.le_refl _) (I1.hok.fresh (Nat.le_refl _))
  | _ => cases ed

/-- range(b), range(a, b), range(a, b, -1) -/
def rng (lo hi : Int) : Option (List D) := if -(2 ^ 62) ≤ lo ∧ lo < 2 ^ 62 ∧ -(2 ^ 62) ≤ hi ∧ hi < 2 ^ 62 ∧ (hi - lo).toNat ≤ line then some (rangeD lo hi) else none
def rngDown (lo hi : Int) : Option (List D) := if -(2 ^ 62) ≤ lo ∧ lo < 2 ^ 62 ∧ -(2 ^ 62) ≤ hi ∧ hi < 2 ^ 62 ∧ (lo - hi).toNat ≤ line then some ((List.range (lo - hi).toNat).map fun (i : Nat) => .int (lo + (i : Int) * (-1))) else none
def range1 : List D → Option (List D)
  | [.int b] => rng 0 b
  | _ => none
def range2 : List D → Option (List D)
  | [.int a, .int b] => rng a b
  | _ => none
def range3 : List D → Option (List D)
  | [.int a, .int b, .int k] => if k = -1 then rngDown a b else none
  | _ => none
/-- what a built-in walks, by its arguments (borrowed) -/
def sB (g : List D → Option (List D)) (as : List Ar) : SrF := fun ρ => (evs as ρ).bnd fun ds => lift (g ds)
theorem rangeD_len (lo hi : Int) : (rangeD lo hi).length = (hi - lo).toNat := by simp [rangeD]
theorem gives_rng {A : Hp → Hp → Prop} {lo hi : Int} {n : Nat} (hn : n = (hi - lo).toNat) (hl : n ≤ line) : Gives c (Itr lo n) A (rangeD lo hi) where
  len := by rw [rangeD_len, ← hn]; exact hl
  go := fun i H F a h => by rw [rangeD_len, ← hn] at h; exact h
  stop := fun i H F a h => by rw [rangeD_len, ← hn] at h; exact h
  yld := fun i H F s x H' a w hi h => by
    rw [rangeD_len] at hi
    obtain ⟨rfl, rfl⟩ := h
    refine ⟨.int (lo + i), F, ?_, Next.refl w, .int _⟩
    unfold rangeD
    rw [List.getElem?_map, List.getElem?_range (by omega)]
    rfl
theorem gives_down {A : Hp → Hp → Prop} {lo : Int} {n : Nat} (hl : n ≤ line) : Gives c (Itc lo (-1) n) A ((List.range n).map fun (i : Nat) => .int (lo + (i : Int) * (-1))) where
  len := by rw [List.length_map, List.length_range]; exact hl
  go := fun i H F a h => by rw [List.length_map, List.length_range] at h; exact h
  stop := fun i H F a h => by rw [List.length_map, List.length_range] at h; exact h
  yld := fun i H F s x H' a w hi h => by
    rw [List.length_map, List.length_range] at hi
    obtain ⟨rfl, rfl⟩ := h
    refine ⟨.int (lo + (i : Int) * (-1)), F, ?_, Next.refl w, .int _⟩
    rw [List.getElem?_map, List.getElem?_range hi]
    rfl
theorem rng_some {lo hi : Int} {ds : List D} (h : rng lo hi = some ds) : ds = rangeD lo hi ∧ -(2 ^ 62) ≤ lo ∧ lo < 2 ^ 62 ∧ -(2 ^ 62) ≤ hi ∧ hi < 2 ^ 62 ∧ (hi - lo).toNat ≤ line := by
  unfold rng at h
  split at h
  · rename_i hh; cases h; exact ⟨rfl, hh⟩
  · cases h
theorem paired_ints {xs : List V} {ds : List D} {is : List Int} (r : Paired (fun v d => RepK c .bor H0 F H v d) xs ds) (e : ds = is.map D.int) : xs = is.map V.int := by
  induction is generalizing xs ds with
  | nil => subst e; cases r; rfl
  | cons i t ih =>
    subst e
    cases r with
    | cons h r => cases bor_int h; rw [ih r rfl]; rfl
section
variable {e1 e2 e3 : Expr} {p : Pos} {as : List Ar}
theorem sB_post {g : List D → Option (List D)} {σ : L2.St} {H : Hp} {R : It → Hp → Prop} (h : tI c E m (sB g as) σ H R) :
    tA c E true as σ H fun vs H1 => ∃ ds s1 F1 es, Wf c H1 F1 s1 ∧ Paired (fun v d => RepK c .bor H1 F1 H1 v d) vs ds ∧ g ds = some es ∧ ∀ J H' F', Next c H1 F1 H' F' s1 → Gives c J (AM c m H' F') es → R J H' := by
  obtain ⟨F, ρ, s, sim, p⟩ := h
  have p : PostI c E m H F R ((evs as ρ).bnd (fun ds => lift (g ds)) s) := p
  exact ⟨F, ρ, s, sim, (PostI.of (b := true) p).mono fun vs H1 ⟨ds, s1, F1, n1, r1, p1⟩ => by
    obtain ⟨es, he, q⟩ := p1.end
    exact ⟨ds, s1, F1, es, n1.wf, paired_shift r1, he, fun J H' F' n g => q J H' F' (n1.trans n) g⟩⟩
theorem tA_mono {b : Bool} {σ : L2.St} {H : Hp} {Q Q' : List V → Hp → Prop} (h : tA c E b as σ H Q) (hq : ∀ v H', Q v H' → Q' v H') : tA c E b as σ H Q' := by
  obtain ⟨F, ρ, s, sim, p⟩ := h
  exact ⟨F, ρ, s, sim, p.mono hq⟩
theorem _root_.L2.PI.imp {t t' : TI} {e : Expr} (h : PI X tg e t) (i : ∀ σ H Q, t' σ H Q → t σ H Q) : PI X tg e t' := ⟨fun pins s σ H Q I hq => h.run pins s σ H Q I (i σ H Q hq)⟩
theorem di_range1 (hg : Gl X "range") (hm : X.mg "range" = none) (ha : PA X [e1] (tA c E true as)) (hs : starEach [e1] X.env = [(false, eval e1 X.env)]) : PI X tg (.Call (.Name "range" p) [e1] [] pos) (tI c E m (sB range1 as)) :=
  (pi_range1 hg hm ha hs).imp fun σ H R h => tA_mono (sB_post h) fun vs H1 ⟨ds, s1, F1, es, wf, r1, he, q⟩ => by
    unfold range1 at he
    split at he
    · rename_i b
      obtain ⟨rfl, h1, h2, h3, h4, h5⟩ := rng_some he
      exact ⟨b, paired_ints (is := [b]) r1 rfl, h3, h4, q _ _ _ (Next.refl wf) (gives_rng (by omega) (by omega))⟩
    · cases he
theorem di_range2 (hg : Gl X "range") (hm : X.mg "range" = none) (ha : PA X [e1, e2] (tA c E true as)) (hs : starEach [e1, e2] X.env = [(false, eval e1 X.env), (false, eval e2 X.env)]) (hs2 : starEach [e2] X.env = [(false, eval e2 X.env)]) :
    PI X tg (.Call (.Name "range" p) [e1, e2] [] pos) (tI c E m (sB range2 as)) :=
  (pi_range2 hg hm ha hs hs2).imp fun σ H R h => tA_mono (sB_post h) fun vs H1 ⟨ds, s1, F1, es, wf, r1, he, q⟩ => by
    unfold range2 at he
    split at he
    · rename_i a b
      obtain ⟨rfl, h1, h2, h3, h4, h5⟩ := rng_some he
      exact ⟨a, b, paired_ints (is := [a, b]) r1 rfl, ⟨h1, h2, h3, h4⟩, q _ _ _ (Next.refl wf) (gives_rng rfl h5)⟩
    · cases he
theorem di_range3 (hg : Gl X "range") (hm : X.mg "range" = none) (ha : PA X [e1, e2, e3] (tA c E true as)) (hs : starEach [e1, e2, e3] X.env = (false, eval e1 X.env) :: starEach [e2, e3] X.env) (hpl : (backTo pos (starEach [e2, e3] X.env)).any (·.1) = false) :
    PI X tg (.Call (.Name "range" p) [e1, e2, e3] [] pos) (tI c E m (sB range3 as)) :=
  (pi_range3 hg hm ha hs hpl).imp fun σ H R h => tA_mono (sB_post h) fun vs H1 ⟨ds, s1, F1, es, wf, r1, he, q⟩ => by
    unfold range3 at he
    split at he
    · rename_i a b k
      split at he
      · rename_i hk
        subst hk
        unfold rngDown at he
        split at he
        · rename_i hh
          cases he
          exact ⟨a, b, -1, (a - b).toNat, paired_ints (is := [a, b, -1]) r1 rfl, RgC.neg hh.1 hh.2.1 hh.2.2.1 hh.2.2.2.1, q _ _ _ (Next.refl wf) (gives_down hh.2.2.2.2)⟩
        · cases he
      · cases he
    · cases he
/-- enumerate(xs), zip(xs, ys): new pairs -/
def enumOf : List D → Option (List D)
  | [.lst ds] => if ds.length ≤ line then some ((List.range ds.length).map fun (i : Nat) => .tup [.int (i : Int), ds.getD i .non]) else none
  | _ => none
def zipOf : List D → Option (List D)
  | [.lst a, .lst b] => if a.length ≤ line then some ((a.zip b).map fun p => .tup [p.1, p.2]) else none
  | [.tup a, .tup b] => if a.length ≤ line then some ((a.zip b).map fun p => .tup [p.1, p.2]) else none
  | _ => none
theorem reps_both {vs : List V} {ds : List D} (r : Reps c F vs ds) : Paired (fun v d => RepK c .bor H' F H v d ∧ (m = false → Rep c F v d)) vs ds := by
  induction vs generalizing ds with
  | nil => cases r; exact .nil
  | cons v t ih =>
    cases r with
    | cons h r => exact .cons ⟨.inl h, fun _ => h⟩ (ih r)
theorem sB_postm {g : List D → Option (List D)} {σ : L2.St} {H : Hp} {R : It → Hp → Prop} (h : tI c E m (sB g as) σ H R) :
    tA c E m as σ H fun vs H1 => ∃ ds s1 F1 es, Wf c H1 F1 s1 ∧ Paired (fun v d => RepK c .bor H1 F1 H1 v d ∧ (m = false → Rep c F1 v d)) vs ds ∧ g ds = some es ∧ ∀ J H' F', Next c H1 F1 H' F' s1 → Gives c J (AM c m H' F') es → R J H' := by
  obtain ⟨F, ρ, s, sim, p⟩ := h
  have p : PostI c E m H F R ((evs as ρ).bnd (fun ds => lift (g ds)) s) := p
  exact ⟨F, ρ, s, sim, (PostI.of (b := m) p).mono fun vs H1 ⟨ds, s1, F1, n1, r1, p1⟩ => by
    obtain ⟨es, he, q⟩ := p1.end
    refine ⟨ds, s1, F1, es, n1.wf, ?_, he, fun J H' F' n g => q J H' F' (n1.trans n) g⟩
    cases m with
    | true => exact Paired.mapP r1 fun v d r => ⟨r, fun z => by cases z⟩
    | false => exact reps_both (show Reps c F1 vs ds from r1)⟩
theorem di_enum {elts : List Expr} {kk : Nat} {tpos : Pos} (hg : Gl X "enumerate") (hm : X.mg "enumerate" = none) (ha : PA X [e1] (tA c E m as)) (hs : starEach [e1] X.env = [(false, eval e1 X.env)]) :
    PI X (.Tuple elts kk tpos) (.Call (.Name "enumerate" p) [e1] [] pos) (tI c E m (sB enumOf as)) :=
  (pi_enum hg hm ha hs).imp fun σ H R h => tA_mono (sB_postm h) fun vs H1 ⟨ds, s1, F1, es, wf, r1, he, q⟩ => by
    unfold enumOf at he
    split at he
    · rename_i ds
      split at he
      · rename_i hl
        cases he
        obtain ⟨x, rfl, r, rv⟩ := paired1 r1
        obtain ⟨a, xs, rfl, h1, h2, h3⟩ := am_lst (m := m) rv wf r
        refine ⟨a, xs, rfl, SqL.of h1, q _ _ _ (Next.refl wf) ⟨by simpa using hl, fun i H F hA hi => ?_, fun i H F hA hi => ?_, fun i H F s x H' hA w hi h => ?_⟩⟩
        · obtain ⟨e1, e2⟩ := h3 H F hA
          have hi' : i < xs.length := by rw [h2.length]; simpa using hi
          exact ⟨xs, xs[i], SqL.of e1, List.getElem?_eq_getElem hi'⟩
        · obtain ⟨e1, e2⟩ := h3 H F hA
          exact ⟨xs, SqL.of e1, by rw [h2.length]; simpa using hi⟩
        · obtain ⟨e1, e2⟩ := h3 H F hA
          obtain ⟨T, y, rfl, hT, rfl, hy⟩ := h
          obtain ⟨d, e3, e4⟩ := e2.get (hy xs (SqL.of e1))
          have n : Next c H F (upd H T (.tup [.int (i : Nat), y])) (upd F T (.tup [.int (i : Nat), y])) s := Next.laidK w hT
          refine ⟨.tup [.int (i : Int), d], _, ?_, n, .tup upd_same (.cons (.int _) (.cons (e4.mono n.leF) .nil))⟩
          have hi' : i < ds.length := by simpa using hi
          have hd : ds.getD i .non = d := by rw [List.getD_eq_getElem?_getD, e3]; rfl
          rw [List.getElem?_map, List.getElem?_range hi']
          show some (D.tup [.int (i : Int), ds.getD i .non]) = _
          rw [hd]
      · cases he
    · cases he
theorem zip_get {α β : Type} {xs : List α} {ys : List β} {i : Nat} {x : α} {y : β} (hx : xs[i]? = some x) (hy : ys[i]? = some y) : (xs.zip ys)[i]? = some (x, y) := by
  rw [List.getElem?_zip_eq_some]
  exact ⟨hx, hy⟩
theorem di_zip {elts : List Expr} {kk : Nat} {tpos : Pos} (hg : Gl X "zip") (hm : X.mg "zip" = none) (ha : PA X [e1, e2] (tA c E m as))
    (hs : starEach [e1, e2] X.env = (false, eval e1 X.env) :: starEach [e2] X.env) (hpl : (backTo pos (starEach [e2] X.env)).any (·.1) = false) :
    PI X (.Tuple elts kk tpos) (.Call (.Name "zip" p) [e1, e2] [] pos) (tI c E m (sB zipOf as)) :=
  (RZ.pi_zipA hg hm ha hs hpl).imp fun σ H R h => tA_mono (sB_postm h) fun vs H1 ⟨ds, s1, F1, es, wf, r1, he, q⟩ => by
    unfold zipOf at he
    split at he
    · rename_i da db
      split at he
      · rename_i hl
        cases he
        obtain ⟨x, y, rfl, ⟨ra, va⟩, rb, vb⟩ := paired2 r1
        obtain ⟨a, xs, rfl, h1, h2, h3⟩ := am_lst (m := m) va wf ra
        obtain ⟨b, ys, rfl, k1, k2, k3⟩ := am_lst (m := m) vb wf rb
        have hl1 := h2.length
        have hl2 := k2.length
        refine ⟨a, b, xs, ys, rfl, .inl ⟨SqL.of h1, SqL.of k1, q _ _ _ (Next.refl wf) ⟨?_, fun i H F hA hi => ?_, fun i H F hA hi => ?_, fun i H F s x H' hA w hi h => ?_⟩⟩⟩
        · rw [List.length_map, List.length_zip]; omega
        · rw [List.length_map, List.length_zip] at hi
          obtain ⟨e1, e2⟩ := h3 H F hA
          obtain ⟨f1, f2⟩ := k3 H F hA
          exact ⟨xs, ys, xs[i]'(by omega), ys[i]'(by omega), SqL.of e1, SqL.of f1, List.getElem?_eq_getElem (by omega), List.getElem?_eq_getElem (by omega)⟩
        · rw [List.length_map, List.length_zip] at hi
          obtain ⟨e1, e2⟩ := h3 H F hA
          obtain ⟨f1, f2⟩ := k3 H F hA
          exact ⟨xs, ys, SqL.of e1, SqL.of f1, by omega⟩
        · obtain ⟨e1, e2⟩ := h3 H F hA
          obtain ⟨f1, f2⟩ := k3 H F hA
          obtain ⟨T, y1, y2, rfl, hT, rfl, hy1, hy2⟩ := h
          obtain ⟨d1, e3, e4⟩ := e2.get (hy1 xs (SqL.of e1))
          obtain ⟨d2, f3, f4⟩ := f2.get (hy2 ys (SqL.of f1))
          have n : Next c H F (upd H T (.tup [y1, y2])) (upd F T (.tup [y1, y2])) s := Next.laidK w hT
          refine ⟨.tup [d1, d2], _, ?_, n, .tup upd_same (.cons (e4.mono n.leF) (.cons (f4.mono n.leF) .nil))⟩
          rw [List.getElem?_map, zip_get e3 f3]
          rfl
      · cases he
    · rename_i da db
      split at he
      · rename_i hl
        cases he
        obtain ⟨x, y, rfl, ⟨ra, va⟩, rb, vb⟩ := paired2 r1
        obtain ⟨a, xs, rfl, h1, h2, h3⟩ := am_tup (m := m) wf ra
        obtain ⟨b, ys, rfl, k1, k2, k3⟩ := am_tup (m := m) wf rb
        have hl1 := h2.length
        have hl2 := k2.length
        refine ⟨a, b, xs, ys, rfl, .inr ⟨SqT.of h1, SqT.of k1, q _ _ _ (Next.refl wf) ⟨?_, fun i H F hA hi => ?_, fun i H F hA hi => ?_, fun i H F s x H' hA w hi h => ?_⟩⟩⟩
        · rw [List.length_map, List.length_zip]; omega
        · rw [List.length_map, List.length_zip] at hi
          obtain ⟨e1, e2⟩ := h3 H F hA
          obtain ⟨f1, f2⟩ := k3 H F hA
          exact ⟨xs, ys, xs[i]'(by omega), ys[i]'(by omega), SqT.of e1, SqT.of f1, List.getElem?_eq_getElem (by omega), List.getElem?_eq_getElem (by omega)⟩
        · rw [List.length_map, List.length_zip] at hi
          obtain ⟨e1, e2⟩ := h3 H F hA
          obtain ⟨f1, f2⟩ := k3 H F hA
          exact ⟨xs, ys, SqT.of e1, SqT.of f1, by omega⟩
        · obtain ⟨e1, e2⟩ := h3 H F hA
          obtain ⟨f1, f2⟩ := k3 H F hA
          obtain ⟨T, y1, y2, rfl, hT, rfl, hy1, hy2⟩ := h
          obtain ⟨d1, e3, e4⟩ := e2.get (hy1 xs (SqT.of e1))
          obtain ⟨d2, f3, f4⟩ := f2.get (hy2 ys (SqT.of f1))
          have n : Next c H F (upd H T (.tup [y1, y2])) (upd F T (.tup [y1, y2])) s := Next.laidK w hT
          refine ⟨.tup [d1, d2], _, ?_, n, .tup upd_same (.cons (e4.mono n.leF) (.cons (f4.mono n.leF) .nil))⟩
          rw [List.getElem?_map, zip_get e3 f3]
          rfl
      · cases he
    · cases he
/-- list(range(..)), tuple(range(..)) -/
def rangeL : List D → Option D
  | [.int b] => (rng 0 b).map .lst
  | [.int a, .int b] => (rng a b).map .lst
  | _ => none
end

/-! ### targets -/
inductive Tg where
  | name (i : Nat) | tup (is : List Nat)
def Tg.slots : Tg → List Nat
  | .name i => [i]
  | .tup is => is
def setAll : List Nat → List D → Env → Env
  | i :: is, d :: ds, ρ => setAll is ds (ρ.set i (.val d))
  | _, _, ρ => ρ
def asgT : Tg → D → Env → Option Env
  | .name i, d, ρ => if i < ρ.length then some (ρ.set i (.val d)) else none
  | .tup is, .tup ds, ρ => if is.length = ds.length ∧ is.all (· < ρ.length) = true then some (setAll is ds ρ) else none
  | .tup _, _, _ => none
/-- the reading of a target: the value is known -/
def tG (c : Cfg) (tg : Tg) : TG := fun v σ H Q => ∃ F ρ s d ρ', Sim c σ H F ρ s ∧ Rep c F v d ∧ asgT tg d ρ = some ρ' ∧ ∀ σ', Sim c σ' H F ρ' s → (∀ j, j ∉ tg.slots → σ'[j]? = σ[j]?) → Q σ' H
theorem _root_.L2.PG.imp {t t' : TG} {e : Expr} (h : PG X e t) (i : ∀ v σ H Q, t' v σ H Q → t v σ H Q) : PG X e t' := ⟨fun pins s σ H v u Q I r hq => h.run pins s σ H v u Q I r (i v σ H Q hq)⟩
theorem Sim.set {σ : L2.St} {ρ : Env} {i : Nat} {v : V} {d : D} (sim : Sim c σ H F ρ s) (r : Rep c F v d) : Sim c (σ.set i (some v)) H F (ρ.set i (.val d)) s := ⟨sim.wf, by rw [List.length_set, List.length_set]; exact sim.sl.1, fun j o sl h1 h2 => by
  by_cases hj : i = j
  · subst hj
    by_cases hi : i < σ.length
    · rw [List.getElem?_set_self hi] at h1
      rw [List.getElem?_set_self (by rw [← sim.sl.1]; exact hi)] at h2
      cases h1; cases h2
      exact ⟨v, rfl, r⟩
    · rw [List.getElem?_eq_none (by simpa using hi)] at h1
      cases h1
  · rw [List.getElem?_set_ne hj] at h1 h2
    exact sim.sl.2 j o sl h1 h2⟩
theorem dg_name {i : Nat} {x : Str} (hN : X.N.Nodup) (hi : X.N[i]? = some x) (hx : Loc X.env.scope x) (hf : X.fn x = true ∨ X.env.scope.names.lookup x = some .local) : PG X (.Name x pos) (tG c (.name i)) :=
  (pg_name hN hi hx hf).imp fun v σ H Q ⟨F, ρ, s, d, ρ', sim, r, e, q⟩ => by
    simp only [asgT] at e
    split at e
    · cases e
      exact q _ (sim.set r) fun j hj => List.getElem?_set_ne (by simpa [Tg.slots, eq_comm] using hj)
    · cases e
/-- names one by one -/
def tGs (c : Cfg) (is : List Nat) : TGs := fun vs σ H Q => ∃ F ρ s ds, Sim c σ H F ρ s ∧ Reps c F vs ds ∧ is.length = ds.length ∧ (∀ i ∈ is, i < ρ.length) ∧ ∀ σ', Sim c σ' H F (setAll is ds ρ) s → (∀ j, j ∉ is → σ'[j]? = σ[j]?) → Q σ' H
theorem _root_.L2.PGs.imp {t t' : TGs} {es : List Expr} (h : PGs X es t) (i : ∀ v σ H Q, t' v σ H Q → t v σ H Q) : PGs X es t' := ⟨fun pins s σ H v u Q I r hq => h.run pins s σ H v u Q I r (i v σ H Q hq)⟩
theorem dgs_nil : PGs X [] (tGs c []) := pgs_nil.imp fun vs σ H Q ⟨F, ρ, s, ds, sim, r, hl, hi, q⟩ => by
  cases ds with
  | cons d ds => simp at hl
  | nil => cases r; exact ⟨rfl, q σ sim fun _ _ => rfl⟩
theorem dgs_cons {i : Nat} {is : List Nat} (h1 : PG X e (tG c (.name i))) (h2 : PGs X es (tGs c is)) (ha : (assignEach (e :: es) X.env).map (·.2) = assign e X.env :: (assignEach es X.env).map (·.2)) : PGs X (e :: es) (tGs c (i :: is)) :=
  (pgs_cons h1 h2 ha).imp fun vs σ H Q ⟨F, ρ, s, ds, sim, r, hl, hi, q⟩ => by
    cases ds with
    | nil => simp at hl
    | cons d ds =>
      cases r with
      | cons r rr =>
        refine ⟨_, _, rfl, F, ρ, s, d, ρ.set i (.val d), sim, r, ?_, fun σ' sim' keep => ⟨F, _, s, ds, sim', rr, by simpa using hl, fun j hj => ?_, fun σ2 sim2 keep2 => q σ2 sim2 fun j hj => ?_⟩⟩
        · simp only [asgT]
          rw [if_pos (hi i List.mem_cons_self)]
        · rw [List.length_set]
          exact hi j (List.mem_cons_of_mem _ hj)
        · simp only [List.mem_cons, not_or] at hj
          rw [keep2 j hj.2, keep j (by simpa [Tg.slots] using hj.1)]
theorem dg_tup {is : List Nat} {k : Nat} (hc : X.calm = true) (h : PGs X es (tGs c is)) (hn : (assignEach es X.env).length = is.length) (hst : (assignEach es X.env).findIdx? (·.1) = none) : PG X (.Tuple es k pos) (tG c (.tup is)) :=
  (pg_tup hc h hn hst).imp fun v σ H Q ⟨F, ρ, s, d, ρ', sim, r, e, q⟩ => by
    cases d with
    | tup ds =>
      simp only [asgT] at e
      split at e
      · rename_i hh
        cases e
        cases r with
        | tup h1 r =>
          refine ⟨_, _, rfl, SqT.of (sim.wf.sub _ _ h1), by rw [r.length]; exact hh.1.symm, F, ρ, s, ds, sim, r, hh.1, fun i hi => ?_, q⟩
          have := List.all_eq_true.mp hh.2 i hi
          simpa using this
      · cases e
    | _ => simp [asgT] at e

/-! ### comprehensions -/
def noErr {α : Type} (m : M α) : M α := fun s => match m s with
  | .ok a s' => .ok a s'
  | _ => .bad
def wipeE (ρ : Env) : List Nat → Env
  | [] => ρ
  | i :: is => (wipeE ρ is).set i .un
def condM (cond : Option EvF) (ρ : Env) : M Bool := match cond with
  | none => M.ret true
  | some f => (f ρ).bnd fun d => ofBl d fun b => M.ret b
def lcGo (ρ : Env) (tg : Tg) (cond : Option EvF) (elt : EvF) : List D → M (List D)
  | [] => M.ret []
  | d :: r => (lift (asgT tg d ρ)).bnd fun ρ1 => (condM cond ρ1).bnd fun b =>
    if b = true then (elt ρ1).bnd fun x => (lcGo ρ tg cond elt r).bnd fun xs => M.ret (x :: xs) else lcGo ρ tg cond elt r
def eLc (own : List Nat) (src : SrF) (tg : Tg) (cond : Option EvF) (elt : EvF) : EvF := fun ρ => (src ρ).bnd fun items => (noErr (lcGo (wipeE ρ own) tg cond elt items)).bnd fun ds => M.ret (.lst ds)
theorem wipeE_len (ρ : Env) : ∀ is : List Nat, (wipeE ρ is).length = ρ.length
  | [] => rfl
  | i :: is => by simp only [wipeE]; rw [List.length_set]; exact wipeE_len ρ is
theorem Sim.wipe {σ : L2.St} {ρ : Env} (sim : Sim c σ H F ρ s) : ∀ is : List Nat, Sim c (L2.wipe σ is) H F (wipeE ρ is) s
  | [] => sim
  | i :: is => by
    have ih := Sim.wipe sim is
    refine ⟨ih.wf, ?_, fun j o sl h1 h2 => ?_⟩
    · rw [wipe_length, wipeE_len]; exact sim.sl.1
    · simp only [L2.wipe] at h1
      simp only [wipeE] at h2
      by_cases hj : i = j
      · subst hj
        by_cases hi : i < (wipeE ρ is).length
        · rw [List.getElem?_set_self hi] at h2
          cases h2
          trivial
        · rw [List.getElem?_eq_none (by simpa using hi)] at h2
          cases h2
      · rw [List.getElem?_set_ne hj] at h1 h2
        exact ih.sl.2 j o sl h1 h2
theorem wipe_out {σ : L2.St} {i : Nat} : ∀ {vs : List Nat}, i ∉ vs → (L2.wipe σ vs)[i]? = σ[i]?
  | [], _ => rfl
  | v :: vs, h => by
    simp only [List.mem_cons, not_or] at h
    simp only [L2.wipe]
    rw [List.getElem?_set_ne (Ne.symm h.1)]
    exact wipe_out h.2
theorem wipe_in {σ : L2.St} {i : Nat} : ∀ {vs : List Nat}, i ∈ vs → (L2.wipe σ vs)[i]? = if i < σ.length then some none else none
  | v :: vs, h => by
    simp only [L2.wipe]
    by_cases e : v = i
    · subst e
      by_cases hi : v < σ.length
      · rw [List.getElem?_set_self (by rw [wipe_length]; exact hi), if_pos hi]
      · rw [List.getElem?_eq_none (by rw [List.length_set, wipe_length]; omega), if_neg hi]
    · rw [List.getElem?_set_ne e]
      rcases List.mem_cons.mp h with h | h
      · exact absurd h.symm e
      · exact wipe_in h
theorem wipe_eq {σ σ' : L2.St} {vs : List Nat} (hl : σ'.length = σ.length) (h : ∀ j, j ∉ vs → σ'[j]? = σ[j]?) : L2.wipe σ' vs = L2.wipe σ vs := by
  apply List.ext_getElem?
  intro i
  by_cases hi : i ∈ vs
  · rw [wipe_in hi, wipe_in hi, hl]
  · rw [wipe_out hi, wipe_out hi]
    exact h i hi
def tC1 (c : Cfg) (cond : Option EvF) : TT := match cond with
  | none => tYes
  | some f => tT c E0 f
theorem Next.write {p : Addr} {o : HO} (n : Next c H F H' F' s') (h0 : H p = none) (hF : F' p = none) (hn : ¬ isDr c p) : Next c H F (upd H' p o) F' s' :=
  ⟨n.wf.write hF hn, n.leF, fun a u h nd => by rw [upd_ne (ne_of_none h h0)]; exact n.keep a u h nd, n.new⟩
theorem Next.none {p : Addr} {o : HO} (n : Next c H F H' F' s') (hp : H p = some o) (hF : F p = none) : F' p = none := by
  cases q : F' p with
  | none => rfl
  | some u =>
    rcases n.new p u q with z | z
    · rw [hF] at z; cases z
    · rw [hp] at z; cases z
theorem lc_ok {m : M (List D)} {s s2 : DS} {ds : List D} (h : noErr m s = .ok ds s2) : m s = .ok ds s2 := by
  unfold noErr at h
  cases e : m s with
  | ok a s' => rw [e] at h; exact h
  | err k ds s' => rw [e] at h; cases h
  | bad => rw [e] at h; cases h
theorem lift_ok {α : Type} {o : Option α} {a : α} {s s' : DS} (h : lift o s = .ok a s') : o = some a ∧ s = s' := by
  cases o with
  | none => cases h
  | some b => cases h; exact ⟨rfl, rfl⟩
theorem bnd_inv {α β : Type} {m : M α} {f : α → M β} {s s2 : DS} {b : β} (h : m.bnd f s = .ok b s2) : ∃ a s1, m s = .ok a s1 ∧ f a s1 = .ok b s2 := by
  rw [bnd_at] at h
  cases e : m s with
  | ok a s1 => rw [e] at h; exact ⟨a, s1, rfl, h⟩
  | err k ds s1 => rw [e] at h; cases h
  | bad => rw [e] at h; cases h
/-- the reading of a comprehension of one clause -/
theorem tLc_of {own : List (Str × Nat)} {src : SrF} {tgt : Tg} {cond : Option EvF} {ef : EvF} (hsub : ∀ j ∈ tgt.slots, j ∈ own.map (·.2)) {σ : L2.St} {H : Hp} {Q : VK} (h : tK c E .own (eLc (own.map (·.2)) src tgt cond ef) σ H Q) :
    tLc (tI c E true src) (tG c tgt) (tC1 c cond) (tK c E0 .val ef) (own.map (·.2)) σ H Q := by
    obtain ⟨F, ρ, s, sim, p⟩ := h
    refine ⟨F, ρ, s, sim, ?_⟩
    have p : Post c E .own H F Q ((src ρ).bnd (fun items => (noErr (lcGo (wipeE ρ (own.map (·.2))) tgt cond ef items)).bnd fun ds => M.ret (.lst ds)) s) := p
    cases es : src ρ s with
    | err k ds s1 => rw [bnd_err es] at p; exact p
    | bad => rw [bnd_bad es] at p; exact p
    | ok items s1 =>
      rw [bnd_ok es] at p
      intro J H1 F1 n g D hD
      cases el : noErr (lcGo (wipeE ρ (own.map (·.2))) tgt cond ef items) s1 with
      | bad => rw [bnd_bad el] at p; exact p.elim
      | err k ds s2 => exact absurd el (by unfold noErr; split <;> simp)
      | ok ds s2 =>
        rw [bnd_ok el] at p
        have q : ∀ v H' F', Next c H F H' F' s2 → RepK c .own H F' H' v (.lst ds) → Q v H' := p
        have hgo := lc_ok el
        have nDr := n.wf.notDr hD
        have FD := free_F n.wf hD
        have HD0 : H D = none := by
          cases z : H D with
          | none => rfl
          | some u => rw [n.keep D u z nDr] at hD; cases hD
        generalize hρw : wipeE ρ (own.map (·.2)) = ρw at hgo
        generalize hvs : own.map (·.2) = vs at hsub ⊢ hρw
        have sim1 : Sim c (L2.wipe σ vs) H1 F1 ρw s1 := by rw [← hρw]; exact (sim.next n).wipe vs
        refine ⟨fun i m H' => m = items.length - i ∧ i ≤ items.length ∧ ∃ F' s' acc xs rest, Next c H1 F1 H' F' s' ∧ H' D = some (.lst xs) ∧ F' D = none ∧ Reps c F' xs acc ∧ acc.length ≤ i ∧ lcGo ρw tgt cond ef (items.drop i) s' = .ok rest s2 ∧ acc ++ rest = ds,
          ⟨items.length, by simp, Nat.zero_le _, F1, s1, [], [], ds, Next.laid n.wf hD, upd_same, FD, .nil, Nat.le_refl _, by simpa using hgo, rfl⟩, ?_⟩
        rintro i m H' ⟨rfl, hi', F', s', acc, xs, rest, n', hD', FD', racc, hacc, hl, happ⟩
        have am : AM c true H1 F1 H' F' := ⟨n'.leF, n'.wf.sub, fun _ a o h nd => n'.keep a o h nd⟩
        by_cases hlt : i < items.length
        · have hdr : items.drop i = items[i] :: items.drop (i + 1) := List.drop_eq_getElem_cons hlt
          rw [hdr] at hl
          simp only [lcGo] at hl
          obtain ⟨ρ1, s3, e1, hl⟩ := bnd_inv hl
          obtain ⟨e1a, rfl⟩ := lift_ok e1
          clear e1
          rename asgT tgt items[i] ρw = some ρ1 => e1
          obtain ⟨b, s4, e2, hl⟩ := bnd_inv hl
          let Nx : Hp → Prop := fun H2 => items.length - (i + 1) = items.length - (i + 1) ∧ i + 1 ≤ items.length ∧ ∃ (F' : Hp) (s' : DS) (acc : List Mn.D) (xs : List V) (rest : List Mn.D), Next c H1 F1 H2 F' s' ∧ H2 D = some (.lst xs) ∧ F' D = none ∧ Reps c F' xs acc ∧ acc.length ≤ i + 1 ∧ lcGo ρw tgt cond ef (items.drop (i + 1)) s' = .ok rest s2 ∧ acc ++ rest = ds
          refine .inr ⟨g.go i H' F' am hlt, Nx,
            fun H2 h2 => ⟨items.length - (i + 1), by omega, h2⟩, fun x H2 hy => ?_⟩
          obtain ⟨d, F2, ed, n2, rd⟩ := g.yld i H' F' s' x H2 am n'.wf hlt hy
          have hd : d = items[i] := by rw [List.getElem?_eq_getElem hlt] at ed; exact (Option.some.inj ed).symm
          subst hd
          have sim2 : Sim c (L2.wipe σ vs) H2 F2 ρw s' := (sim1.next n').next n2
          have hD2 : H2 D = some (.lst xs) := n2.keep D _ hD' nDr
          have FD2 : F2 D = none := n2.none hD' FD'
          refine ⟨F2, ρw, s', items[i], ρ1, sim2, rd, e1, fun σ2 sim3 keep => ⟨?_, ?_⟩⟩
          · have hl2 : σ2.length = (L2.wipe σ vs).length := by
              rw [sim3.sl.1, sim2.sl.1]
              cases tgt with
              | name j =>
                simp only [asgT] at e1
                split at e1
                · cases e1; rw [List.length_set]
                · cases e1
              | tup js =>
                have sl : ∀ (js : List Nat) (ds : List Mn.D) (ρ : Env), (setAll js ds ρ).length = ρ.length := by
                  intro js
                  induction js with
                  | nil => intro ds ρ; rfl
                  | cons j js ih =>
                    intro ds ρ
                    cases ds with
                    | nil => rfl
                    | cons d ds => simp only [setAll]; rw [ih, List.length_set]
                cases hit : items[i] with
                | tup ds =>
                  rw [hit] at e1
                  simp only [asgT] at e1
                  split at e1
                  · cases e1; exact sl _ _ _
                  · cases e1
                | _ => rw [hit] at e1; simp [asgT] at e1
            have e4 := wipe_eq (vs := vs) hl2 fun j hj => keep j fun h => hj (hsub j h)
            rw [e4]
            apply List.ext_getElem?
            intro j
            by_cases hj : j ∈ vs
            · rw [wipe_in hj, wipe_in hj, wipe_length]
            · rw [wipe_out hj]
          · -- the test, the element
            have turn : ∀ (H3 F3 : Hp), Next c H2 F2 H3 F3 s4 → if b = true then tK c E0 .val ef σ2 H3 (fun y H4 => ∃ acc, H4 D = some (.lst acc) ∧ acc.length < sizeLine ∧ Nx (upd H4 D (.lst (acc ++ [y]))))
                else Nx H3 := fun H3 F3 n3 => by
              cases b with
              | false =>
                rw [if_neg (by simp)] at hl
                refine iteF ⟨rfl, hlt, F3, s4, acc, xs, rest, (n'.trans n2).trans n3, n3.keep D _ hD2 nDr, n3.none hD2 FD2, (racc.mono n2.leF).mono n3.leF, by omega, hl, happ⟩
              | true =>
                rw [if_pos rfl] at hl
                obtain ⟨z, s5, e3, hl⟩ := bnd_inv hl
                obtain ⟨zs, s6, e4, hl⟩ := bnd_inv hl
                cases hl
                refine iteT ⟨F3, ρ1, s4, sim3.next n3, ?_⟩
                rw [e3]
                intro y H4 F4 n4 r4
                have hD3 := n3.keep D _ hD2 nDr
                have FD3 := n3.none hD2 FD2
                have hD4 := n4.keep D _ hD3 nDr
                have FD4 := n4.none hD3 FD3
                have racc4 : Reps c F4 xs acc := ((racc.mono n2.leF).mono n3.leF).mono n4.leF
                refine ⟨xs, hD4, by rw [racc4.length, sizeLine_eq]; have := g.len; unfold line at this; omega, rfl, hlt, F4, s5, acc ++ [z], xs ++ [y], zs, (((n'.trans n2).trans n3).trans n4).write hD FD4 nDr, upd_same, FD4, racc4.append (.cons r4 .nil), by rw [List.length_append]; simp; omega, e4, by rw [List.append_assoc]; exact happ⟩
            cases cond with
            | none =>
              simp only [condM] at e2
              cases e2
              exact turn H2 F2 (Next.refl n2.wf)
            | some f =>
              simp only [condM] at e2
              obtain ⟨d2, s5, e5, e6⟩ := bnd_inv e2
              cases d2 with
              | bl b2 =>
                cases e6
                refine ⟨F2, ρ1, s', sim3, ?_⟩
                rw [e5]
                exact ⟨b, rfl, fun H3 F3 n3 => turn H3 F3 n3⟩
              | _ => cases e6
        · have hii : i = items.length := by omega
          subst hii
          rw [List.drop_length] at hl
          simp only [lcGo] at hl
          cases hl
          rw [List.append_nil] at happ
          subst happ
          exact .inl ⟨g.stop _ H' F' am (Nat.le_refl _), q _ _ _ (n.trans n') (.inr ⟨D, rfl, HD0, FD', nDr, xs, hD', racc⟩)⟩
/-- a comprehension of one clause -/
theorem de_lc {elt iter : Expr} {ifs : List Expr} {scope : Scope} {own : List (Str × Nat)} {src : SrF} {tgt : Tg} {cond : Option EvF} {ef : EvF} (hc : X.calm = true) (hN : X.N.Nodup) (hi : PI X tg iter (tI c E true src)) (ok : BlkOk X.N X.env.scope scope own)
    (hg : ∀ (s : Shared) (H : Hp) (C : Addr) (cl : List (Str × Addr)) (fp : List Addr), PG (X.blk s H scope (compEnvC scope cl C X.env) fp) tg (tG c tgt))
    (ht : ∀ (s : Shared) (H : Hp) (C : Addr) (cl : List (Str × Addr)) (fp : List Addr), PTs (X.blk s H scope (compEnvC scope cl C X.env) fp) ifs (tC1 c cond))
    (he : ∀ (s : Shared) (H : Hp) (C : Addr) (cl : List (Str × Addr)) (fp : List Addr), PE (X.blk s H scope (compEnvC scope cl C X.env) fp) elt (tK c E0 .val ef))
    (hsub : ∀ j ∈ tgt.slots, j ∈ own.map (·.2)) (hs : ∀ x, foldedSetIterable iter X.env x = pure x) :
    PE X (.ListComp elt [⟨tg, iter, ifs, 0⟩] scope pos) (tK c E .own (eLc (own.map (·.2)) src tgt cond ef)) :=
  (pe_lc hc hN hi ok hg ht he hs).imp fun _ _ _ h => tLc_of hsub h
end
end Mn

/-! Mn8: statements by data. -/
namespace Mn
open PySem PySem.Spec PyProof.Rows L2

/-- how a statement ends -/
inductive Fl where
  | nx (ρ : Env) | bk (ρ : Env) | ct (ρ : Env) | rt (d : D)
abbrev StF := Env → M Fl
def fSkip : StF := fun ρ => M.ret (.nx ρ)
def fSeq (g1 g2 : StF) : StF := fun ρ => (g1 ρ).bnd fun fl => match fl with
  | .nx ρ' => g2 ρ'
  | fl => M.ret fl
def mkSl (b : Bool) (d : D) : Sl := if b && isSeq d then .own d else .val d
/-- x = e; b: a new list (or dict) is held by x alone -/
def fAsg (i : Nat) (b : Bool) (f : EvF) : StF := fun ρ => (f ρ).bnd fun d => if i < ρ.length then M.ret (.nx (ρ.set i (mkSl b d))) else bad
def fTgt (tg : Tg) (f : EvF) : StF := fun ρ => (f ρ).bnd fun d => (lift (asgT tg d ρ)).bnd fun ρ' => M.ret (.nx ρ')
def fIf (c : EvF) (g1 g2 : StF) : StF := fun ρ => (c ρ).bnd fun d => ofBl d fun b => if b = true then g1 ρ else g2 ρ
def fRet (f : EvF) : StF := fun ρ => (f ρ).bnd fun d => M.ret (.rt d)
/-- return x, x a list that x alone holds -/
def fRetOwn (i : Nat) : StF := fun ρ => match ρ[i]? with
  | some (.own d) => M.ret (.rt d)
  | _ => bad
def fExpr (f : EvF) : StF := fun ρ => (f ρ).bnd fun _ => M.ret (.nx ρ)
/-- x becomes a value that stands still -/
def fKnow (i : Nat) : StF := fun ρ => match ρ[i]? with
  | some (.own d) => M.ret (.nx (ρ.set i (.val d)))
  | some (.val _) => M.ret (.nx ρ)
  | _ => bad
def forGo (tg : Tg) (g : StF) : List D → StF
  | [], ρ => M.ret (.nx ρ)
  | d :: r, ρ => (lift (asgT tg d ρ)).bnd fun ρ1 => (g ρ1).bnd fun fl => match fl with
    | .nx ρ2 => forGo tg g r ρ2
    | .ct ρ2 => forGo tg g r ρ2
    | .bk ρ2 => M.ret (.nx ρ2)
    | .rt d => M.ret (.rt d)
def fFor (tg : Tg) (src : SrF) (g : StF) : StF := fun ρ => (src ρ).bnd fun items => forGo tg g items ρ
def whileGo (c : EvF) (g : StF) : Nat → StF
  | 0, _ => bad
  | n + 1, ρ => (c ρ).bnd fun d => ofBl d fun b => if b = true then (g ρ).bnd fun fl => match fl with
      | .nx ρ2 => whileGo c g n ρ2
      | .ct ρ2 => whileGo c g n ρ2
      | .bk ρ2 => M.ret (.nx ρ2)
      | .rt d => M.ret (.rt d)
    else M.ret (.nx ρ)
def fAug (i : Nat) (op : BOp) (fv : EvF) : StF := fun ρ => match ρ[i]? with
  | some (.val (.int a)) => (fv ρ).bnd fun v => match op, v with
    | .add, .int b => M.ret (.nx (ρ.set i (.val (.int (a + b)))))
    | .sub, .int b => M.ret (.nx (ρ.set i (.val (.int (a - b)))))
    | _, _ => bad
  | _ => bad

/-! ### the state between statements -/
structure SimS (c : Cfg) (He Fe : Hp) (σ : L2.St) (H F : Hp) (ρ : Env) (s : DS) : Prop where
  next : Next c He Fe H F s
  sl : Slots c F H σ ρ
  own0 : ∀ (i : Nat) (p : Addr) (d : D), σ[i]? = some (some (.ref p)) → ρ[i]? = some (.own d) → He p = none
  apart : ∀ (i j : Nat) (p : Addr) (d d' : D), i ≠ j → σ[i]? = some (some (.ref p)) → ρ[i]? = some (.own d) → σ[j]? = some (some (.ref p)) → ρ[j]? = some (.own d') → False
def PostS (c : Cfg) (E : XK) (κ : Kd) (He Fe : Hp) (D : Ends) : Res Fl → Prop
  | .ok (.nx ρ') s' => ∀ σ' H' F', SimS c He Fe σ' H' F' ρ' s' → D.nx σ' H'
  | .ok (.bk ρ') s' => ∀ σ' H' F', SimS c He Fe σ' H' F' ρ' s' → D.bk σ' H'
  | .ok (.ct ρ') s' => ∀ σ' H' F', SimS c He Fe σ' H' F' ρ' s' → D.ct σ' H'
  | .ok (.rt d) s' => ∀ v H' F', Next c He Fe H' F' s' → RepK c κ He F' H' v d → D.rt v H'
  | .err k ds s' => ∀ cls dd H' F', Next c He Fe H' F' s' → ErrRep c F' cls dd k ds → E cls dd H'
  | .bad => False
def tS (c : Cfg) (E : XK) (κ : Kd) (g : StF) : TS := fun D σ H => ∃ He Fe F ρ s, SimS c He Fe σ H F ρ s ∧ PostS c E κ He Fe D (g ρ s)
section
variable {X : Cx} {c : Cfg} {E : XK} {κ κ' : Kd} {a b e : Expr} {st : Stmt} {sts : List Stmt} {f fa fb : EvF} {g g1 g2 : StF} {pos : Pos} {He Fe H F H' F' : Hp} {s s' : DS} {σ : L2.St} {ρ : Env} {D D' : Ends} {v : V} {d : Mn.D}
theorem _root_.L2.PS.imp {t t' : TS} (h : PS X st t) (i : ∀ D σ H, t' D σ H → t D σ H) : PS X st t' := ⟨fun pins s σ H D I hq => h.run pins s σ H D I (i D σ H hq)⟩
theorem _root_.L2.PSs.imp {t t' : TS} (h : PSs X sts t) (i : ∀ D σ H, t' D σ H → t D σ H) : PSs X sts t' := ⟨fun pins s σ H D I hq => h.run pins s σ H D I (i D σ H hq)⟩
theorem SimS.sim (x : SimS c He Fe σ H F ρ s) : Sim c σ H F ρ s := ⟨x.next.wf, x.sl⟩
theorem SimS.on (x : SimS c He Fe σ H F ρ s) (n : Next c H F H' F' s') : SimS c He Fe σ H' F' ρ s' :=
  ⟨x.next.trans n, (x.sim.next n).sl, x.own0, x.apart⟩
theorem SimS.ofSim (n : Next c He Fe H F s) (sl : Slots c F H σ ρ) (h : ∀ (i : Nat) (d : Mn.D), ρ[i]? ≠ some (.own d)) : SimS c He Fe σ H F ρ s :=
  ⟨n, sl, fun i p d _ h2 => absurd h2 (h i d), fun i j p d d' _ _ h2 _ _ => absurd h2 (h i d)⟩
theorem slots_val {i : Nat} {dd : Mn.D} (h : (ρ.set i (.val d))[j]? = some (.own dd)) (hij : True) : ∃ h : i ≠ j, ρ[j]? = some (.own dd) := by
  by_cases e : i = j
  · subst e
    by_cases hi : i < ρ.length
    · rw [List.getElem?_set_self hi] at h; cases h
    · rw [List.getElem?_eq_none (by simpa using hi)] at h; cases h
  · rw [List.getElem?_set_ne e] at h
    exact ⟨e, h⟩
/-- a value into a slot -/
theorem SimS.put (x : SimS c He Fe σ H F ρ s) (n : Next c H F H' F' s') {b : Bool} (r : RepK c (if b then .own else .val) H F' H' v d) (i : Nat) : SimS c He Fe (σ.set i (some v)) H' F' (ρ.set i (mkSl b d)) s' := by
  have y := x.on n
  -- what the new slot is
  have key : (mkSl b d = .val d ∧ Rep c F' v d) ∨ (mkSl b d = .own d ∧ ∃ p, v = .ref p ∧ H p = none ∧ F' p = none ∧ ¬ isDr c p ∧ OwnAt c F' (H' p) d) := by
    cases b with
    | false => exact .inl ⟨rfl, r⟩
    | true =>
      rcases (show RepK c .own H F' H' v d from r) with ⟨h, r⟩ | ⟨p, h0, h1, h2, h3, h4⟩
      · refine .inl ⟨?_, r⟩
        unfold mkSl
        rw [h]; rfl
      · refine .inr ⟨?_, p, h0, h1, h2, h3, h4⟩
        unfold mkSl
        have hs : isSeq d = true := by
          cases d with
          | lst _ => rfl
          | dK _ => rfl
          | dT _ => rfl
          | _ => exact h4.elim
        rw [hs]; rfl
  rcases key with ⟨e, r⟩ | ⟨e, p, rfl, h1, h2, h3, h4⟩
  · rw [e]
    refine ⟨y.next, ((y.sim).set r).sl, fun j q dd a1 a2 => ?_, fun j k q dd dd' hjk a1 a2 a3 a4 => ?_⟩
    · obtain ⟨hij, a2⟩ := slots_val a2 trivial
      rw [List.getElem?_set_ne hij] at a1
      exact x.own0 j q dd a1 a2
    · obtain ⟨hij, a2⟩ := slots_val a2 trivial
      obtain ⟨hik, a4⟩ := slots_val a4 trivial
      rw [List.getElem?_set_ne hij] at a1
      rw [List.getElem?_set_ne hik] at a3
      exact x.apart j k q dd dd' hjk a1 a2 a3 a4
  · rw [e]
    have other : ∀ (j : Nat) (q : Addr) (dd : Mn.D), i ≠ j → σ[j]? = some (some (.ref q)) → ρ[j]? = some (.own dd) → q ≠ p := fun j q dd hij a1 a2 e => by
      have ok := x.sl.2 j _ _ a1 a2
      obtain ⟨w, ew, q', eq, f1, f2, f3⟩ := ok
      cases ew; cases eq
      obtain ⟨u, hu⟩ := f3.some
      rw [e, h1] at hu
      cases hu
    refine ⟨y.next, ⟨by rw [List.length_set, List.length_set]; exact y.sl.1, fun j o sl a1 a2 => ?_⟩, fun j q dd a1 a2 => ?_, fun j k q dd dd' hjk a1 a2 a3 a4 => ?_⟩
    · by_cases hij : i = j
      · subst hij
        by_cases hi : i < σ.length
        · rw [List.getElem?_set_self hi] at a1
          rw [List.getElem?_set_self (by rw [← y.sl.1]; exact hi)] at a2
          cases a1; cases a2
          exact ⟨.ref p, rfl, p, rfl, h2, h3, h4⟩
        · rw [List.getElem?_eq_none (by simpa using hi)] at a1
          cases a1
      · rw [List.getElem?_set_ne hij] at a1 a2
        exact y.sl.2 j o sl a1 a2
    · by_cases hij : i = j
      · subst hij
        by_cases hi : i < σ.length
        · rw [List.getElem?_set_self hi] at a1
          cases a1
          cases z : He p with
          | none => rfl
          | some u => rw [x.next.keep p u z h3] at h1; cases h1
        · rw [List.getElem?_eq_none (by simpa using hi)] at a1
          cases a1
      · rw [List.getElem?_set_ne hij] at a1 a2
        exact x.own0 j q dd a1 a2
    · by_cases hij : i = j
      · subst hij
        rw [List.getElem?_set_ne hjk] at a3 a4
        by_cases hi : i < σ.length
        · rw [List.getElem?_set_self hi] at a1
          cases a1
          exact other k _ dd' hjk a3 a4 rfl
        · rw [List.getElem?_eq_none (by simpa using hi)] at a1
          cases a1
      · rw [List.getElem?_set_ne hij] at a1 a2
        by_cases hik : i = k
        · subst hik
          by_cases hi : i < σ.length
          · rw [List.getElem?_set_self hi] at a3
            cases a3
            exact other j _ dd hij a1 a2 rfl
          · rw [List.getElem?_eq_none (by simpa using hi)] at a3
            cases a3
        · rw [List.getElem?_set_ne hik] at a3 a4
          exact x.apart j k q dd dd' hjk a1 a2 a3 a4
/-- what a slot alone holds is written -/
theorem SimS.write (x : SimS c He Fe σ H F ρ s) {i : Nat} {p : Addr} {d' : Mn.D} {o : HO} (h1 : σ[i]? = some (some (.ref p))) (h2 : ρ[i]? = some (.own d)) (r : OwnAt c F (some o) d') : SimS c He Fe σ (upd H p o) F (ρ.set i (.own d')) s := by
  obtain ⟨w, ew, q', eq, f1, f2, f3⟩ := x.sl.2 i _ _ h1 h2
  cases ew; cases eq
  have hi : i < ρ.length := (List.getElem?_eq_some_iff.mp h2).1
  have back : ∀ (j : Nat) (dd : Mn.D), (ρ.set i (.own d'))[j]? = some (.own dd) → ∃ d2, ρ[j]? = some (.own d2) := fun j dd h => by
    by_cases e : i = j
    · subst e; exact ⟨d, h2⟩
    · rw [List.getElem?_set_ne e] at h; exact ⟨dd, h⟩
  refine ⟨x.next.write (x.own0 i p d h1 h2) f1 f2, ⟨by rw [List.length_set]; exact x.sl.1, fun j o' sl a1 a2 => ?_⟩, fun j q dd a1 a2 => ?_, fun j k q dd dd' hjk a1 a2 a3 a4 => ?_⟩
  · by_cases e : i = j
    · subst e
      rw [List.getElem?_set_self hi] at a2
      rw [h1] at a1
      cases a1; cases a2
      exact ⟨_, rfl, p, rfl, f1, f2, by rw [upd_same]; exact r⟩
    · rw [List.getElem?_set_ne e] at a2
      have ok := x.sl.2 j o' sl a1 a2
      cases sl with
      | un => trivial
      | val dd => exact ok
      | own dd =>
        obtain ⟨w, rfl, q, rfl, k1, k2, k3⟩ := ok
        refine ⟨_, rfl, q, rfl, k1, k2, ?_⟩
        rw [upd_ne (fun z => x.apart i j p d dd e h1 h2 (by rw [a1, z]) a2)]
        exact k3
  · obtain ⟨d2, h⟩ := back j dd a2
    exact x.own0 j q d2 a1 h
  · obtain ⟨d2, k2⟩ := back j dd a2
    obtain ⟨d3, k3⟩ := back k dd' a4
    exact x.apart j k q d2 d3 hjk a1 k2 a3 k3

/-! ### the rules -/
/-- an expression of a statement: its end is told of the statement's entry -/
def PostX (c : Cfg) (E : XK) (κ : Kd) (He Fe H F : Hp) (Q : VK) (r : Res Mn.D) : Prop := match r with
  | .ok d s' => ∀ v H' F', Next c H F H' F' s' → RepK c κ H F' H' v d → Q v H'
  | .err k ds s' => ∀ cls dd H' F', Next c He Fe H' F' s' → ErrRep c F' cls dd k ds → E cls dd H'
  | .bad => False
theorem PostX.post {Q : VK} {r : Res Mn.D} (h : PostX c E κ He Fe H F Q r) (n : Next c He Fe H F s) : Post c E κ H F Q r := by
  cases r with
  | ok d s2 => exact h
  | err k ds s2 => exact fun cls dd H2 F2 n2 r => h cls dd H2 F2 (n.trans n2) r
  | bad => exact h
/-- an expression, then the rest of the statement -/
theorem PostS.bnd {m : M Mn.D} {g : Mn.D → M Fl} (h : PostS c E κ He Fe D (m.bnd g s)) (n : Next c He Fe H F s) :
    Post c E κ' H F (fun v H1 => ∃ d s1 F1, Next c H F H1 F1 s1 ∧ RepK c κ' H F1 H1 v d ∧ PostS c E κ He Fe D (g d s1)) (m s) := by
  cases e : m s with
  | ok d s1 =>
    rw [bnd_ok e] at h
    exact fun v H1 F1 n1 r => ⟨d, s1, F1, n1, r, h⟩
  | err k ds s1 =>
    rw [bnd_err e] at h
    exact fun cls dd H2 F2 n2 r => h cls dd H2 F2 (n.trans n2) r
  | bad => rw [bnd_bad e] at h; exact h
theorem PostS.test {m : M Mn.D} {g : Bool → M Fl} (h : PostS c E κ He Fe D (m.bnd (fun x => ofBl x g) s)) (n : Next c He Fe H F s) :
    PostT c E H F (fun b H1 => ∃ s1 F1, Next c H F H1 F1 s1 ∧ PostS c E κ He Fe D (g b s1)) (m s) := by
  cases e : m s with
  | ok d s1 =>
    rw [bnd_ok e] at h
    cases d with
    | bl b => exact ⟨b, rfl, fun H1 F1 n1 => ⟨s1, F1, n1, h⟩⟩
    | _ => exact h.elim
  | err k ds s1 =>
    rw [bnd_err e] at h
    exact fun cls dd H2 F2 n2 r => h cls dd H2 F2 (n.trans n2) r
  | bad => rw [bnd_bad e] at h; exact h
theorem PostS.src {m : M (List Mn.D)} {g : List Mn.D → M Fl} {mm : Bool} (h : PostS c E κ He Fe D (m.bnd g s)) (n : Next c He Fe H F s) :
    PostI c E mm H F (fun J H1 => ∃ ds s1 F1, Next c H F H1 F1 s1 ∧ Gives c J (AM c mm H1 F1) ds ∧ PostS c E κ He Fe D (g ds s1)) (m s) := by
  cases e : m s with
  | ok d s1 =>
    rw [bnd_ok e] at h
    exact fun J H1 F1 n1 gv => ⟨d, s1, F1, n1, gv, h⟩
  | err k ds s1 =>
    rw [bnd_err e] at h
    exact fun cls dd H2 F2 n2 r => h cls dd H2 F2 (n.trans n2) r
  | bad => rw [bnd_bad e] at h; exact h
/-- a statement, then what follows it -/
theorem PostS.seq {m : M Fl} {g : Env → M Fl} (h : PostS c E κ He Fe D (m.bnd (fun fl => match fl with
    | .nx ρ' => g ρ'
    | fl => M.ret fl) s)) : PostS c E κ He Fe { D with nx := fun σ' H' => ∃ ρ' s1 F1, SimS c He Fe σ' H' F1 ρ' s1 ∧ PostS c E κ He Fe D (g ρ' s1) } (m s) := by
  cases e : m s with
  | ok fl s1 =>
    rw [bnd_ok e] at h
    cases fl with
    | nx ρ' => exact fun σ' H' F' sim => ⟨ρ', s1, F', sim, h⟩
    | bk ρ' => exact h
    | ct ρ' => exact h
    | rt d => exact h
  | err k ds s1 => rw [bnd_err e] at h; exact h
  | bad => rw [bnd_bad e] at h; exact h
theorem ds_nil : PSs X [] (tS c E κ fSkip) := pss_nil.imp fun D σ H ⟨He, Fe, F, ρ, s, sim, p⟩ => p σ H F sim
theorem ds_cons (h1 : PS X st (tS c E κ g1)) (h2 : PSs X sts (tS c E κ g2)) : PSs X (st :: sts) (tS c E κ (fSeq g1 g2)) :=
  (pss_cons h1 h2).imp fun D σ H ⟨He, Fe, F, ρ, s, sim, p⟩ => ⟨He, Fe, F, ρ, s, sim, by
    have q := PostS.seq (g := g2) p
    cases e : g1 ρ s with
    | ok fl s1 =>
      rw [e] at q
      cases fl with
      | nx ρ' =>
        intro σ' H' F' sim'
        obtain ⟨ρ2, s2, F2, sim2, p2⟩ := q σ' H' F' sim'
        exact ⟨He, Fe, F2, ρ2, s2, sim2, p2⟩
      | bk ρ' => exact q
      | ct ρ' => exact q
      | rt d => exact q
    | err k ds s1 => rw [e] at q; exact q
    | bad => rw [e] at q; exact q⟩
/-- x = e -/
theorem dS_set {i : Nat} {x : Str} {b : Bool} {pos' : Pos} (hN : X.N.Nodup) (hi : X.N[i]? = some x) (hx : Loc X.env.scope x) (he : PE X e (tK c E (if b then .own else .val) f)) (hs : swapsWith e (some (.Name x pos')) pos.line X.env = pure false) (hf : X.fn x = true ∨ X.env.scope.names.lookup x = some .local) :
    PS X (.Assign [.Name x pos'] e pos) (tS c E κ (fAsg i b f)) :=
  (ps_set hN hi hx he hs hf).imp fun D σ H ⟨He, Fe, F, ρ, s, sim, p⟩ => ⟨F, ρ, s, sim.sim, (PostS.bnd (κ' := if b then .own else .val) p sim.next).mono fun v H1 ⟨d, s1, F1, n1, r1, p1⟩ => by
    show D.nx (σ.set i (some v)) H1
    split at p1
    · exact p1 _ _ _ (sim.put n1 r1 i)
    · exact p1.elim⟩
/-- x = [..], swapped -/
theorem dS_setLc {i : Nat} {y : Str} {py : Pos} {elt tg iter : Expr} {ifs : List Expr} {scope : Scope} {own : List (Str × Nat)} {spos : Pos} {src : SrF} {tgt : Tg} {cond : Option EvF} {ef : EvF} (hc : X.calm = true) (hN : X.N.Nodup) (hy : X.N[i]? = some y) (hyl : X.env.scope.names.lookup y = some .local)
    (hsw : swapsWith (.ListComp elt [⟨tg, iter, ifs, 0⟩] scope pos) (some (.Name y py)) spos.line X.env = pure true) (hi : PI X tg iter (tI c E true src)) (ok : BlkOk X.N X.env.scope scope own)
    (hg : ∀ (s : Shared) (H : Hp) (C : Addr) (cl : List (Str × Addr)) (fp : List Addr), PG (X.blk s H scope (compEnvC scope cl C X.env) fp) tg (tG c tgt))
    (ht : ∀ (s : Shared) (H : Hp) (C : Addr) (cl : List (Str × Addr)) (fp : List Addr), PTs (X.blk s H scope (compEnvC scope cl C X.env) fp) ifs (tC1 c cond))
    (he : ∀ (s : Shared) (H : Hp) (C : Addr) (cl : List (Str × Addr)) (fp : List Addr), PE (X.blk s H scope (compEnvC scope cl C X.env) fp) elt (tK c E0 .val ef))
    (hsub : ∀ j ∈ tgt.slots, j ∈ own.map (·.2)) (hs : ∀ x, foldedSetIterable iter X.env x = pure x) :
    PS X (.Assign [.Name y py] (.ListComp elt [⟨tg, iter, ifs, 0⟩] scope pos) spos) (tS c E κ (fAsg i true (eLc (own.map (·.2)) src tgt cond ef))) :=
  (ps_setLc hc hN hy hyl hsw hi ok hg ht he hs).imp fun D σ H ⟨He, Fe, F, ρ, s, sim, p⟩ => by
    have q := (PostS.bnd (κ' := .own) p sim.next)
    have r := tLc_of (c := c) (E := E) (src := src) (tgt := tgt) (cond := cond) (ef := ef) (own := own) hsub (σ := σ) (H := H) (Q := fun v H1 => D.nx (σ.set i (some v)) H1) ⟨F, ρ, s, sim.sim, q.mono fun v H1 ⟨d, s1, F1, n1, r1, p1⟩ => by
      split at p1
      · exact p1 _ _ _ (sim.put (b := true) n1 r1 i)
      · exact p1.elim⟩
    exact r
/-- a target of names is given a known value -/
theorem SimS.tgt (x : SimS c He Fe σ H F ρ s) {tg : Tg} {ρ' : Env} {σ' : L2.St} (e : asgT tg d ρ = some ρ') (sim : Sim c σ' H F ρ' s) (keep : ∀ j, j ∉ tg.slots → σ'[j]? = σ[j]?) : SimS c He Fe σ' H F ρ' s := by
  have setAll_own : ∀ (is : List Nat) (ds : List Mn.D) (ρ : Env) (j : Nat) (dd : Mn.D), is.length = ds.length → (setAll is ds ρ)[j]? = some (.own dd) → j ∉ is ∧ ρ[j]? = some (.own dd) := by
    intro is
    induction is with
    | nil => intro ds ρ j dd _ h; exact ⟨by simp, h⟩
    | cons i is ih =>
      intro ds ρ j dd hl h
      cases ds with
      | nil => simp at hl
      | cons d ds =>
        obtain ⟨h1, h2⟩ := ih ds _ j dd (by simpa using hl) h
        obtain ⟨h3, h4⟩ := slots_val h2 trivial
        exact ⟨by simp only [List.mem_cons, not_or]; exact ⟨Ne.symm h3, h1⟩, h4⟩
  have own_out : ∀ (j : Nat) (dd : Mn.D), ρ'[j]? = some (.own dd) → j ∉ tg.slots ∧ ρ[j]? = some (.own dd) := fun j dd h => by
    cases tg with
    | name i =>
      simp only [asgT] at e
      split at e
      · cases e
        obtain ⟨h1, h2⟩ := slots_val h trivial
        exact ⟨by simpa [Tg.slots] using Ne.symm h1, h2⟩
      · cases e
    | tup is =>
      cases d with
      | tup ds =>
        simp only [asgT] at e
        split at e
        · rename_i hh
          cases e
          exact setAll_own is ds ρ j dd hh.1 h
        · cases e
      | _ => simp [asgT] at e
  refine ⟨x.next, sim.sl, fun j q dd a1 a2 => ?_, fun j k q dd dd' hjk a1 a2 a3 a4 => ?_⟩
  · obtain ⟨h1, h2⟩ := own_out j dd a2
    rw [keep j h1] at a1
    exact x.own0 j q dd a1 h2
  · obtain ⟨h1, h2⟩ := own_out j dd a2
    obtain ⟨h3, h4⟩ := own_out k dd' a4
    rw [keep j h1] at a1
    rw [keep k h3] at a3
    exact x.apart j k q dd dd' hjk a1 h2 a3 h4
theorem dS_tgt {tg e : Expr} {tgt : Tg} (he : PE X e (tK c E .val f)) (hg : PG X tg (tG c tgt)) (hs : swapsWithSole [tg] e pos.line X.env = pure false) (hw : swappedStores [tg] e X.env = pure none) (h1 : (assignEach [tg] X.env).map (·.2) = [assign tg X.env]) :
    PS X (.Assign [tg] e pos) (tS c E κ (fTgt tgt f)) :=
  (ps_asg he hg hs hw h1).imp fun D σ H ⟨He, Fe, F, ρ, s, sim, p⟩ => ⟨F, ρ, s, sim.sim, (PostS.bnd (κ' := .val) p sim.next).mono fun v H1 ⟨d, s1, F1, n1, r1, p1⟩ => by
    cases e2 : asgT tgt d ρ with
    | none => rw [e2] at p1; exact p1.elim
    | some ρ' =>
      rw [e2] at p1
      exact ⟨F1, ρ, s1, d, ρ', sim.sim.next n1, r1, e2, fun σ' sim' keep => p1 σ' H1 F1 ((sim.on n1).tgt e2 sim' keep)⟩⟩
theorem dS_if {e3 : Expr} {xs ys : List Stmt} {fc : EvF} (hc : PT X e3 (tT c E fc)) (ha : PSs X xs (tS c E κ g1)) (hb : PSs X ys (tS c E κ g2)) : PS X (.If e3 xs ys pos) (tS c E κ (fIf fc g1 g2)) :=
  (ps_if hc ha hb).imp fun D σ H ⟨He, Fe, F, ρ, s, sim, p⟩ => ⟨F, ρ, s, sim.sim, (PostS.test p sim.next).mono fun b H1 ⟨s1, F1, n1, p1⟩ => by
    cases b with
    | true => rw [if_pos rfl] at p1; exact iteT ⟨He, Fe, F1, ρ, s1, sim.on n1, p1⟩
    | false => rw [if_neg (by simp)] at p1; exact iteF ⟨He, Fe, F1, ρ, s1, sim.on n1, p1⟩⟩
theorem dS_ret (he : PE X e (tK c E κ f)) : PS X (.Return (some e) pos) (tS c E κ (fRet f)) :=
  (ps_ret he).imp fun D σ H ⟨He, Fe, F, ρ, s, sim, p⟩ => ⟨F, ρ, s, sim.sim, (PostS.bnd (κ' := κ) p sim.next).mono fun v H1 ⟨d, s1, F1, n1, r1, p1⟩ => p1 v H1 F1 (sim.next.trans n1) (r1.shift sim.next)⟩
theorem dS_retN : PS X (.Return none pos) (tS c E κ (fRet (eC .non))) :=
  ps_retN.imp fun D σ H ⟨He, Fe, F, ρ, s, sim, p⟩ => p .non H F sim.next (up_rep .non)
theorem dS_retOwn {i : Nat} {x : Str} {p2 : Pos} (hN : X.N[i]? = some x) (hv : Vis X.env.scope x) (hd : (x == ("__debug__" : Str)) = false) (hcd : (x == ("__classdict__" : Str)) = false) : PS X (.Return (some (.Name x p2)) pos) (tS c E .own (fRetOwn i)) :=
  (ps_ret (pe_var hN hv hd hcd)).imp fun D σ H ⟨He, Fe, F, ρ, s, sim, p⟩ => by
    simp only [fRetOwn] at p
    cases h : ρ[i]? with
    | none => rw [h] at p; exact p.elim
    | some sl =>
      rw [h] at p
      cases sl with
      | own d =>
        obtain ⟨o, ho, r⟩ := slot_at sim.sim h
        obtain ⟨v, rfl, q, rfl, h1, h2, h3⟩ := r
        exact ⟨.ref q, ho, p _ _ _ sim.next (.inr ⟨q, rfl, sim.own0 i q d ho h, h1, h2, h3⟩)⟩
      | _ => exact p.elim
theorem dS_expr (he : PE X e (tK c E .bor f)) (hs : swapsWith e none pos.line X.env = pure false) : PS X (.Expr e pos) (tS c E κ (fExpr f)) :=
  (ps_expr he hs).imp fun D σ H ⟨He, Fe, F, ρ, s, sim, p⟩ => ⟨F, ρ, s, sim.sim, (PostS.bnd (κ' := .bor) p sim.next).mono fun v H1 ⟨d, s1, F1, n1, r1, p1⟩ => p1 σ H1 F1 (sim.on n1)⟩
theorem dS_pass : PS X (.Pass pos) (tS c E κ fSkip) := ps_pass.imp fun D σ H ⟨He, Fe, F, ρ, s, sim, p⟩ => p σ H F sim
theorem dS_cont : PS X (.Continue pos) (tS c E κ (fun ρ => M.ret (.ct ρ))) := ps_continue.imp fun D σ H ⟨He, Fe, F, ρ, s, sim, p⟩ => p σ H F sim
theorem dS_break : PS X (.Break pos) (tS c E κ (fun ρ => M.ret (.bk ρ))) := ps_break.imp fun D σ H ⟨He, Fe, F, ρ, s, sim, p⟩ => p σ H F sim
/-- what a slot alone holds becomes known -/
theorem SimS.know (x : SimS c He Fe σ H F ρ s) {i : Nat} (h : ρ[i]? = some (.own d)) : ∃ F', Same F F' ∧ SimS c He Fe σ H F' (ρ.set i (.val d)) s := by
  obtain ⟨o, ho, r⟩ := slot_at x.sim h
  obtain ⟨v, rfl, p, rfl, h1, h2, h3⟩ := r
  obtain ⟨u, hu⟩ := h3.some
  have hi : i < ρ.length := (List.getElem?_eq_some_iff.mp h).1
  have m : Same F (upd F p u) := same_upd (.inl h1)
  have hr : Rep c (upd F p u) (.ref p) d := by
    have h4 := h3.mono m
    cases d with
    | lst ds =>
      obtain ⟨xs, e1, e2⟩ := h4
      rw [hu] at e1; cases e1
      exact .lst upd_same e2
    | dK es =>
      obtain ⟨kvs, e1, e2, e3⟩ := h4
      rw [hu] at e1; cases e1
      exact .dK upd_same e2 e3
    | dT es =>
      obtain ⟨kvs, e1, e2, e3⟩ := h4
      rw [hu] at e1; cases e1
      exact .dT upd_same e2 e3
    | _ => exact h3.elim
  refine ⟨upd F p u, m, x.next.know (x.own0 i p d ho h) hu (.inl h1) h2, ⟨by rw [List.length_set]; exact x.sl.1, fun j o sl a1 a2 => ?_⟩, fun j q dd a1 a2 => ?_, fun j k q dd dd' hjk a1 a2 a3 a4 => ?_⟩
  · by_cases e : i = j
    · subst e
      rw [List.getElem?_set_self hi] at a2
      rw [ho] at a1
      cases a1; cases a2
      exact ⟨_, rfl, hr⟩
    · rw [List.getElem?_set_ne e] at a2
      have ok := x.sl.2 j o sl a1 a2
      cases sl with
      | un => trivial
      | val dd => obtain ⟨w, e1, e2⟩ := ok; exact ⟨w, e1, e2.mono m⟩
      | own dd =>
        obtain ⟨w, rfl, q, rfl, k1, k2, k3⟩ := ok
        refine ⟨_, rfl, q, rfl, ?_, k2, k3.mono m⟩
        rw [upd_ne (fun z => x.apart i j p d dd e ho h (by rw [a1, z]) a2)]
        exact k1
  · obtain ⟨hij, a2⟩ := slots_val a2 trivial
    exact x.own0 j q dd a1 a2
  · obtain ⟨hij, a2⟩ := slots_val a2 trivial
    obtain ⟨hik, a4⟩ := slots_val a4 trivial
    exact x.apart j k q dd dd' hjk a1 a2 a3 a4
theorem dS_know {i : Nat} (h : PSs X sts (tS c E κ g)) : PSs X sts (tS c E κ (fSeq (fKnow i) g)) := h.imp fun D σ H ⟨He, Fe, F, ρ, s, sim, p⟩ => by
  have p : PostS c E κ He Fe D ((fKnow i ρ).bnd (fun fl => match fl with
    | .nx ρ' => g ρ'
    | fl => M.ret fl) s) := p
  simp only [fKnow] at p
  cases h : ρ[i]? with
  | none => rw [h] at p; exact p.elim
  | some sl =>
    rw [h] at p
    cases sl with
    | un => exact p.elim
    | val d => exact ⟨He, Fe, F, ρ, s, sim, p⟩
    | own d =>
      obtain ⟨F', m, sim'⟩ := sim.know h
      exact ⟨He, Fe, F', _, s, sim', p⟩

/-! ### loops -/
theorem forGo_cons {tg : Tg} {d : Mn.D} {r : List Mn.D} : forGo tg g (d :: r) ρ = (lift (asgT tg d ρ)).bnd fun ρ1 => (g ρ1).bnd fun fl => match fl with
    | .nx ρ2 => forGo tg g r ρ2
    | .ct ρ2 => forGo tg g r ρ2
    | .bk ρ2 => M.ret (.nx ρ2)
    | .rt d => M.ret (.rt d) := rfl
/-- the entry is another -/
theorem Next.re {Fj Fi : Hp} (n : Next c He Fj H F s) (lo : Same Fi F) (new : ∀ a o, Fj a = some o → Fi a = some o ∨ He a = Option.none) : Next c He Fi H F s :=
  ⟨n.wf, lo, n.keep, fun a o h => by
    rcases n.new a o h with z | z
    · exact new a o z
    · exact .inr z⟩
theorem SimS.re {Fj Fi : Hp} (x : SimS c He Fj σ H F ρ s) (lo : Same Fi F) (new : ∀ a o, Fj a = some o → Fi a = some o ∨ He a = Option.none) : SimS c He Fi σ H F ρ s :=
  ⟨x.next.re lo new, x.sl, x.own0, x.apart⟩
theorem PostS.loop {F1 : Hp} {m : M Fl} {k : Env → M Fl} (h : PostS c E κ He Fe D (m.bnd (fun fl => match fl with
    | .nx ρ2 => k ρ2
    | .ct ρ2 => k ρ2
    | .bk ρ2 => M.ret (.nx ρ2)
    | .rt d => M.ret (.rt d)) s)) (le : Same Fe F1) (new : ∀ a o, F1 a = some o → Fe a = some o ∨ He a = Option.none) :
    PostS c E κ He F1 { D with nx := fun σ' H' => ∃ F2 ρ' s1, Same F1 F2 ∧ SimS c He Fe σ' H' F2 ρ' s1 ∧ PostS c E κ He Fe D (k ρ' s1), ct := fun σ' H' => ∃ F2 ρ' s1, Same F1 F2 ∧ SimS c He Fe σ' H' F2 ρ' s1 ∧ PostS c E κ He Fe D (k ρ' s1), bk := D.nx } (m s) := by
  cases e : m s with
  | ok fl s1 =>
    rw [bnd_ok e] at h
    cases fl with
    | nx ρ' => exact fun σ' H' F' sim => ⟨F', ρ', s1, sim.next.leF, sim.re (le.trans sim.next.leF) new, h⟩
    | ct ρ' => exact fun σ' H' F' sim => ⟨F', ρ', s1, sim.next.leF, sim.re (le.trans sim.next.leF) new, h⟩
    | bk ρ' => exact fun σ' H' F' sim => h σ' H' F' (sim.re (le.trans sim.next.leF) new)
    | rt d => exact fun v H' F' n r => h v H' F' (n.re (le.trans n.leF) new) r
  | err k ds s1 =>
    rw [bnd_err e] at h
    exact fun cls dd H' F' n r => h cls dd H' F' (n.re (le.trans n.leF) new) r
  | bad => rw [bnd_bad e] at h; exact h
theorem dS_for {iter tg : Expr} {body : List Stmt} {src : SrF} {tgt : Tg} (hp : PassesOwn (model X.prog X.w) X.A X.env X.xe) (hc : X.calm = true) (hi : PI X tg iter (tI c E false src)) (hg : PG X tg (tG c tgt)) (hb : PSs X body (tS c E κ g)) (hs : ∀ x, foldedSetIterable iter X.env x = pure x) :
    PS X (.For tg iter body [] pos) (tS c E κ (fFor tgt src g)) :=
  (ps_for hp hc hi hg hb hs).imp fun D σ H ⟨He, Fe, F, ρ, s, sim, p⟩ => ⟨F, ρ, s, sim.sim, (PostS.src (mm := false) p sim.next).mono fun J H1 ⟨items, s1, F1, n1, gv, p1⟩ => by
    have nx1 := sim.next.trans n1
    refine ⟨fun i m σ' H' => m = items.length - i ∧ i ≤ items.length ∧ ∃ F' ρ' s', Same F1 F' ∧ SimS c He Fe σ' H' F' ρ' s' ∧ PostS c E κ He Fe D (forGo tgt g (items.drop i) ρ' s'),
      ⟨items.length, by simp, Nat.zero_le _, F1, ρ, s1, Same.refl _, sim.on n1, by simpa using p1⟩, ?_⟩
    rintro i m σ' H' ⟨rfl, hi', F', ρ', s', le, sim', p'⟩
    have am : AM c false H1 F1 H' F' := ⟨le, sim'.next.wf.sub, fun z => by cases z⟩
    by_cases hlt : i < items.length
    · rw [List.drop_eq_getElem_cons hlt, forGo_cons] at p'
      refine .inr ⟨gv.go i H' F' am hlt, fun σ2 H2 => ∃ F2 ρ2 s2, Same F1 F2 ∧ SimS c He Fe σ2 H2 F2 ρ2 s2 ∧ PostS c E κ He Fe D (forGo tgt g (items.drop (i + 1)) ρ2 s2), fun σ2 H2 h2 => ⟨items.length - (i + 1), by omega, rfl, hlt, h2⟩, fun x H2 hy => ?_⟩
      obtain ⟨d, F2, ed, n2, rd⟩ := gv.yld i H' F' s' x H2 am sim'.next.wf hlt hy
      have hd : d = items[i] := by rw [List.getElem?_eq_getElem hlt] at ed; exact (Option.some.inj ed).symm
      subst hd
      cases e1 : asgT tgt items[i] ρ' with
      | none => rw [e1] at p'; exact p'.elim
      | some ρ1 =>
        rw [e1] at p'
        have sim2 := sim'.on n2
        refine ⟨F2, ρ', s', items[i], ρ1, sim2.sim, rd, e1, fun σ3 sim3 keep => ?_⟩
        have sim4 := sim2.tgt e1 sim3 keep
        have le2 : Same F1 F2 := le.trans n2.leF
        refine ⟨He, F1, F2, ρ1, s', sim4.re le2 fun a o h => ?_, PostS.loop (k := fun ρ2 => forGo tgt g (items.drop (i + 1)) ρ2) p' nx1.leF nx1.new⟩
        exact .inl (nx1.leF _ _ h)
    · have hii : i = items.length := by omega
      subst hii
      rw [List.drop_length] at p'
      exact .inl ⟨gv.stop _ H' F' am (Nat.le_refl _), p' σ' H' F' sim'⟩⟩
theorem whileGo_succ {fc : EvF} {n : Nat} : whileGo fc g (n + 1) ρ = (fc ρ).bnd fun d => ofBl d fun b => if b = true then (g ρ).bnd fun fl => match fl with
      | .nx ρ2 => whileGo fc g n ρ2
      | .ct ρ2 => whileGo fc g n ρ2
      | .bk ρ2 => M.ret (.nx ρ2)
      | .rt d => M.ret (.rt d)
    else M.ret (.nx ρ) := rfl
theorem dS_while {e3 : Expr} {body : List Stmt} {fc : EvF} {n : Nat} (hp : PassesOwn (model X.prog X.w) X.A X.env X.xe) (hcc : PT X e3 (tT c E fc)) (hb : PSs X body (tS c E κ g)) :
    PS X (.While e3 body [] pos) (tS c E κ (whileGo fc g n)) :=
  (ps_while hp hcc hb).imp fun D σ H ⟨He, Fe, F, ρ, s, sim, p⟩ => by
    refine ⟨fun m σ' H' => ∃ F' ρ' s', Same F F' ∧ SimS c He Fe σ' H' F' ρ' s' ∧ PostS c E κ He Fe D (whileGo fc g m ρ' s'), ⟨n, F, ρ, s, Same.refl _, sim, p⟩, ?_⟩
    rintro m σ' H' ⟨F', ρ', s', le, sim', p'⟩
    cases m with
    | zero => exact p'.elim
    | succ m =>
      rw [whileGo_succ] at p'
      refine ⟨F', ρ', s', sim'.sim, (PostS.test p' sim'.next).mono fun b H2 ⟨s2, F2, n2, p2⟩ => ?_⟩
      have sim2 := sim'.on n2
      cases b with
      | true =>
        rw [if_pos rfl] at p2 ⊢
        refine ⟨fun σ2 H2 => ∃ F2 ρ2 s2, Same F F2 ∧ SimS c He Fe σ2 H2 F2 ρ2 s2 ∧ PostS c E κ He Fe D (whileGo fc g m ρ2 s2), fun σ2 H2 h2 => ⟨m, by omega, h2⟩, ?_⟩
        refine ⟨He, F, F2, ρ', s2, sim2.re (le.trans n2.leF) fun a o h => .inl (sim.next.leF _ _ h), PostS.loop (k := fun ρ2 => whileGo fc g m ρ2) p2 sim.next.leF sim.next.new⟩
      | false =>
        rw [if_neg (by simp)] at p2 ⊢
        exact p2 σ' H2 F2 sim2
end
end Mn

/-! Mn9: defs and their calls by data. -/
namespace Mn
open PySem PySem.Spec PyProof.Rows L2

/-- while: by as many turns as it takes -/
noncomputable def fWhile (c : EvF) (g : StF) : StF := fun ρ s => by
  classical
  exact if h : ∃ n r, whileGo c g n ρ s = r ∧ r ≠ .bad then whileGo c g (Classical.choose h) ρ s else .bad
/-- what a call of a def asks and gives -/
def spD (c : Cfg) (κ : Kd) (n : Nat) (fn : List D → M D) : Sp := fun vs H Q E => vs.length = n ∧ ∃ F ds s, Wf c H F s ∧ Reps c F vs ds ∧ Post c E κ H F Q (fn ds s)
/-- a def's meaning: m slots, n parameters -/
def fnOf (m n : Nat) (g : StF) : List D → M D := fun ds => if ds.length = n then (g (ds.map Sl.val ++ List.replicate (m - n) .un)).bnd fun fl => match fl with
    | .rt d => M.ret d
    | .nx _ => M.ret .non
    | _ => bad
  else bad
/-- the def of the name x stands, and answers by fn -/
structure Fx (P : Program) (w : World) (K : PySem.W.Frag) (mg : Str → Option Value) (base : Heap) (c : Cfg) (k : Nat) (x : Str) (κ : Kd) (ps : List Str) (fn : List D → M D) : Prop where
  ex : ∃ f fd, mg x = some (.ref f) ∧ PySem.W.keepIn K (.ref f) = true ∧ Binds K fd ps [] ∧ FnOk P w K mg base (L2.CX P w) k f fd ps (spD c κ ps.length fn)
  len : ∀ ds s, ds.length ≠ ps.length → fn ds s = .bad
def eCall (fn : List D → M D) (as : List Ar) : EvF := fun ρ => (evs as ρ).bnd fn
section
variable {X : Cx} {c : Cfg} {E : XK} {κ : Kd} {k k' : Nat} {x : Str} {ps : List Str} {fn : List D → M D} {e : Expr} {es : List Expr} {as : List Ar} {p pos : Pos}
theorem sp_of (hl : ∀ ds s, ds.length ≠ ps.length → fn ds s = .bad) {F H : Hp} {vs : List V} {ds : List D} {s : DS} {Q : VK} (w : Wf c H F s) (r : Reps c F vs ds) (h : Post c E κ H F Q (fn ds s)) : spD c κ ps.length fn vs H Q E := by
  refine ⟨?_, F, ds, s, w, r, h⟩
  by_cases e : ds.length = ps.length
  · rw [r.length, e]
  · rw [hl ds s e] at h
    exact h.elim
theorem de_call (h : Fx X.prog X.w X.K X.mg X.base c k x κ ps fn) (hr : Room k' X.A) (hk : k ≤ k') (hg : Gl X x) (hx : Passes (L2.CX X.prog X.w) X E)
    (ha : PA X (e :: es) (tA c E false as)) (hdb : (x == ("__debug__" : Str)) = false) (he : starEach (e :: es) X.env = (false, eval e X.env) :: starEach es X.env) (hpl : (backTo pos (starEach es X.env)).any (·.1) = false) :
    PE X (.Call (.Name x p) (e :: es) [] pos) (tK c E κ (eCall fn as)) := by
  obtain ⟨⟨f, fd, hm, hkp, hb, hF⟩, hl⟩ := h
  refine (pe_call hF (hr.mono hk) hg hm hkp hb .nil hx ha hdb he hpl).imp fun σ H Q ⟨F, ρ, s, sim, p⟩ => ⟨F, ρ, s, sim, (PostA.of (b := false) p).mono fun vs H1 ⟨ds, s1, F1, n1, r1, p1⟩ => ?_⟩
  have r1' : Reps c F1 vs ds := r1
  rw [List.append_nil]
  exact sp_of hl n1.wf r1' p1
end
theorem reps_start {c : Cfg} {H F : Hp} {N : List Str} {vs : List V} {ds : List D} (r : Reps c F vs ds) (n : Nat) : Slots c F H (vs.map some ++ List.replicate n none) (ds.map Sl.val ++ List.replicate n .un) := by
  refine ⟨by simp [r.length], fun i o sl h1 h2 => ?_⟩
  by_cases hi : i < ds.length
  · rw [List.getElem?_append_left (by simpa using hi), List.getElem?_map] at h2
    rw [List.getElem?_append_left (by simpa [r.length] using hi), List.getElem?_map] at h1
    cases e1 : ds[i]? with
    | none => rw [e1] at h2; cases h2
    | some d =>
      rw [e1] at h2; cases h2
      obtain ⟨v, hv, rv⟩ := r.at e1
      rw [hv] at h1; cases h1
      exact ⟨v, rfl, rv⟩
  · rw [List.getElem?_append_right (by simpa using hi), List.getElem?_replicate] at h2
    split at h2 <;> cases h2
    trivial
section
variable {P : Program} {w : World} {K : PySem.W.Frag} {mg : Str → Option Value} {base : Heap} {c : Cfg}
/-- a def's body by data: the def answers so -/
theorem fnD {x qual : Str} {params : Arguments} {body : List Stmt} {scope : Scope} {f : Addr} {fd : FuncData} {N ps : List Str} {k : Nat} {κ : Kd} {g : StF} (F : FunD K x qual params body scope [] [] f fd) (S : FnScope N ps scope)
    (hb : ∀ (cdv : Value) (A : Around) (outer : List PySem.Env) (s : Shared) (H : Hp) (E : XK), Room k (A.deeper (envOfC qual scope s.heap.objs.size f cdv)) → PSs (cxOf (L2.CX P w) P w K mg base N qual scope f cdv A outer s H E) body (tS c E κ g)) :
    FnOk P w K mg base (L2.CX P w) (k + 1) f fd ps (spD c κ ps.length (fnOf N.length ps.length g)) := by
  refine F.ok S (fun vs H Q E h => h.1) fun cdv A outer s H vs Q E hr h => ⟨tS c E κ g, hb cdv A outer s H E hr, ?_⟩
  obtain ⟨hl, F, ds, s, wf, r, p⟩ := h
  unfold fnOf at p
  split at p
  · rename_i hl2
    refine ⟨H, F, F, _, s, SimS.ofSim (Next.refl wf) (ρ := ds.map Sl.val ++ List.replicate (N.length - ps.length) .un) ?_ fun i d hi => ?_, ?_⟩
    · unfold L2.start
      rw [hl]
      exact reps_start (N := N) r _
    · by_cases hi2 : i < ds.length
      · rw [List.getElem?_append_left (by simpa using hi2), List.getElem?_map] at hi
        cases e : ds[i]? with
        | none => rw [e] at hi; cases hi
        | some d => rw [e] at hi; cases hi
      · rw [List.getElem?_append_right (by simpa using hi2), List.getElem?_replicate] at hi
        split at hi <;> cases hi
    · generalize ds.map Sl.val ++ List.replicate (N.length - ps.length) Sl.un = ρ at p ⊢
      cases e : g ρ s with
      | ok fl s1 =>
        rw [bnd_ok e] at p
        cases fl with
        | nx ρ' => exact fun σ' H' F' sim => p .non H' F' sim.next (up_rep .non)
        | bk ρ' => exact p.elim
        | ct ρ' => exact p.elim
        | rt d => exact p
      | err k ds s1 => rw [bnd_err e] at p; exact p
      | bad => rw [bnd_bad e] at p; exact p
  · exact p.elim
theorem fnOf_len {m n : Nat} {g : StF} : ∀ ds s, ds.length ≠ n → fnOf m n g ds s = .bad := fun ds s h => by
  unfold fnOf
  rw [if_neg h]
  rfl
end
end Mn

/-! Mn10: parallel assignment: values that wait are slots behind the slots. -/
namespace Mn
open PySem PySem.Spec PyProof.Rows L2

/-- the values of a pair, each with: is a new list held alone -/
def evsP : List (Bool × EvF) → Env → M (List Sl)
  | [], _ => M.ret []
  | (b, f) :: r, ρ => (f ρ).bnd fun d => (evsP r ρ).bnd fun ds => M.ret (mkSl b d :: ds)
def setSl : List Nat → List Sl → Env → Env
  | i :: is, d :: ds, ρ => setSl is ds (ρ.set i d)
  | _, _, ρ => ρ
def fPar (is : List Nat) (as : List (Bool × EvF)) : StF := fun ρ => (evsP as ρ).bnd fun sls => if is.length = sls.length ∧ (∀ i ∈ is, i < ρ.length) then M.ret (.nx (setSl is sls ρ)) else bad
section
variable {c : Cfg} {He Fe H F H' F' : Hp} {σ : L2.St} {ρ : Env} {s s' : DS} {v : V} {d : D} {sl : Sl}
theorem SimS.take (x : SimS c He Fe (σ ++ σ') H F (ρ ++ ρ') s) (hl : σ.length = ρ.length) : SimS c He Fe σ H F ρ s := by
  have up : ∀ {i : Nat} {o : Option V}, σ[i]? = some o → (σ ++ σ')[i]? = some o := fun {i o} h => by
    rw [List.getElem?_append_left (List.getElem?_eq_some_iff.mp h).1]; exact h
  have up2 : ∀ {i : Nat} {o : Sl}, ρ[i]? = some o → (ρ ++ ρ')[i]? = some o := fun {i o} h => by
    rw [List.getElem?_append_left (List.getElem?_eq_some_iff.mp h).1]; exact h
  exact ⟨x.next, ⟨hl, fun i o sl h1 h2 => x.sl.2 i o sl (up h1) (up2 h2)⟩, fun i p d h1 h2 => x.own0 i p d (up h1) (up2 h2), fun i j p d d' hij h1 h2 h3 h4 => x.apart i j p d d' hij (up h1) (up2 h2) (up h3) (up2 h4)⟩
theorem last_get {α : Type} {l : List α} {a : α} {i : Nat} {o : α} (h : (l ++ [a])[i]? = some o) : (l[i]? = some o) ∨ (i = l.length ∧ o = a) := by
  by_cases hi : i < l.length
  · rw [List.getElem?_append_left hi] at h; exact .inl h
  · rw [List.getElem?_append_right (by omega)] at h
    cases hk : i - l.length with
    | zero => rw [hk] at h; simp at h; exact .inr ⟨by omega, h.symm⟩
    | succ n => rw [hk] at h; simp at h
theorem SimS.more (x : SimS c He Fe σ H F ρ s) : SimS c He Fe (σ ++ [none]) H F (ρ ++ [.un]) s := by
  have hl := x.sl.1
  refine ⟨x.next, ⟨by simp [hl], fun i o sl h1 h2 => ?_⟩, fun i p d h1 h2 => ?_, fun i j p d d' hij h1 h2 h3 h4 => ?_⟩
  · rcases last_get h2 with h2 | ⟨_, rfl⟩
    · rcases last_get h1 with h1 | ⟨hi, rfl⟩
      · exact x.sl.2 i o sl h1 h2
      · rw [hi, hl, List.getElem?_eq_none (Nat.le_refl _)] at h2; cases h2
    · trivial
  · rcases last_get h2 with h2 | ⟨_, e⟩
    · rcases last_get h1 with h1 | ⟨hi, e⟩
      · exact x.own0 i p d h1 h2
      · cases e
    · cases e
  · rcases last_get h2 with h2 | ⟨_, e⟩
    · rcases last_get h4 with h4 | ⟨_, e⟩
      · rcases last_get h1 with h1 | ⟨_, e⟩
        · rcases last_get h3 with h3 | ⟨_, e⟩
          · exact x.apart i j p d d' hij h1 h2 h3 h4
          · cases e
        · cases e
      · cases e
    · cases e
theorem SimS.push (x : SimS c He Fe σ H F ρ s) (n : Next c H F H' F' s') {b : Bool} (r : RepK c (if b then .own else .val) H F' H' v d) : SimS c He Fe (σ ++ [some v]) H' F' (ρ ++ [mkSl b d]) s' := by
  have y := x.more.put n r σ.length
  have e1 : (σ ++ [none]).set σ.length (some v) = σ ++ [some v] := by simp
  have e2 : (ρ ++ [Sl.un]).set σ.length (mkSl b d) = ρ ++ [mkSl b d] := by rw [x.sl.1]; simp
  rw [e1, e2] at y
  exact y
def setV : List Nat → List V → L2.St → L2.St
  | i :: is, v :: vs, σ => setV is vs (σ.set i (some v))
  | _, _, σ => σ
/-- the slots set to what stands in some order -/
theorem SimS.perm (x : SimS c He Fe σ H F ρ s) {σ' : L2.St} {ρ' : Env} (hl : σ'.length = ρ'.length) (f : Nat → Nat) (inj : ∀ i j, i < σ'.length → j < σ'.length → f i = f j → i = j) (h1 : ∀ i, i < σ'.length → σ'[i]? = σ[f i]?) (h2 : ∀ i, i < σ'.length → ρ'[i]? = ρ[f i]?) : SimS c He Fe σ' H F ρ' s := by
  have lt : ∀ {i : Nat} {o : Option V}, σ'[i]? = some o → i < σ'.length := fun h => (List.getElem?_eq_some_iff.mp h).1
  refine ⟨x.next, ⟨hl, fun i o sl a1 a2 => ?_⟩, fun i p d a1 a2 => ?_, fun i j p d d' hij a1 a2 a3 a4 => ?_⟩
  · have hi := lt a1
    rw [h1 i hi] at a1; rw [h2 i hi] at a2
    exact x.sl.2 _ o sl a1 a2
  · have hi := lt a1
    rw [h1 i hi] at a1; rw [h2 i hi] at a2
    exact x.own0 _ p d a1 a2
  · have hi := lt a1
    have hj := lt a3
    rw [h1 i hi] at a1; rw [h2 i hi] at a2
    rw [h1 j hj] at a3; rw [h2 j hj] at a4
    exact x.apart _ _ p d d' (fun e => hij (inj i j hi hj e)) a1 a2 a3 a4
/-- the first value that waits goes to its slot -/
theorem SimS.store {vs : List V} {sls : List Sl} (x : SimS c He Fe (σ ++ (v :: vs).map some) H F (ρ ++ sl :: sls) s) (hl : σ.length = ρ.length) {i : Nat} (hi : i < ρ.length) : SimS c He Fe (σ.set i (some v) ++ vs.map some) H F (ρ.set i sl ++ sls) s := by
  have hl2 : vs.length = sls.length := by have := x.sl.1; simp [hl] at this; omega
  have hl3 : (σ.set i (some v) ++ vs.map some).length = σ.length + vs.length := by simp
  have hiσ : i < σ.length := by omega
  refine x.perm (f := fun j => if j = i then σ.length else if j < σ.length then j else j + 1) (by simp [hl, hl2]) (fun a b ha hb e => ?_) (fun j hj => ?_) (fun j hj => ?_)
  · split at e <;> split at e <;> (try split at e) <;> (try split at e) <;> omega
  · by_cases e : j = i
    · subst e
      rw [if_pos rfl, List.getElem?_append_left (by simpa using hiσ), List.getElem?_set_self hiσ, List.getElem?_append_right (Nat.le_refl _)]
      simp
    · rw [if_neg e]
      by_cases hj2 : j < σ.length
      · rw [if_pos hj2, List.getElem?_append_left (by simpa using hj2), List.getElem?_set_ne (Ne.symm e), List.getElem?_append_left hj2]
      · rw [if_neg hj2, List.getElem?_append_right (by simpa using hj2), List.getElem?_append_right (by omega), List.length_set]
        have : j + 1 - σ.length = (j - σ.length) + 1 := by omega
        rw [this]
        simp
  · by_cases e : j = i
    · subst e
      rw [if_pos rfl, List.getElem?_append_left (by simpa using hi), List.getElem?_set_self hi, List.getElem?_append_right (by omega), hl]
      simp
    · rw [if_neg e]
      by_cases hj2 : j < σ.length
      · rw [if_pos hj2, List.getElem?_append_left (by simpa [← hl] using hj2), List.getElem?_set_ne (Ne.symm e), List.getElem?_append_left (by omega)]
      · rw [if_neg hj2, List.getElem?_append_right (by simp; omega), List.getElem?_append_right (by omega), List.length_set]
        have : j + 1 - ρ.length = (j - ρ.length) + 1 := by omega
        rw [this]
        simp
theorem SimS.storeAll : ∀ {is : List Nat} {vs : List V} {sls : List Sl} {σ : L2.St} {ρ : Env}, SimS c He Fe (σ ++ vs.map some) H F (ρ ++ sls) s → σ.length = ρ.length → is.length = sls.length → (∀ i ∈ is, i < ρ.length) → SimS c He Fe (setV is vs σ) H F (setSl is sls ρ) s := by
  intro is
  induction is with
  | nil =>
    intro vs sls σ ρ x hl h _
    cases sls with
    | nil =>
      cases vs with
      | nil => simpa [setV, setSl] using x
      | cons v vs => have := x.sl.1; simp [hl] at this
    | cons a b => simp at h
  | cons i is ih =>
    intro vs sls σ ρ x hl h hi
    cases sls with
    | nil => simp at h
    | cons sl sls =>
      cases vs with
      | nil => have := x.sl.1; simp [hl] at this
      | cons v vs =>
        have y := x.store hl (hi i List.mem_cons_self)
        exact ih y (by simp [hl]) (by simpa using h) (fun j hj => by rw [List.length_set]; exact hi j (List.mem_cons_of_mem _ hj))
/-- a pair's values: what is read, the values that wait told by slots behind the slots -/
def tP (c : Cfg) (E : XK) (as : List (Bool × EvF)) : TA := fun σ H Q => ∃ He Fe F ρ s pend psl, SimS c He Fe (σ ++ List.map some pend) H F (ρ ++ psl) s ∧ σ.length = ρ.length ∧ (match evsP as ρ s with
  | .ok sls s' => ∀ vs H' F', SimS c He Fe (σ ++ List.map some (pend ++ vs)) H' F' (ρ ++ (psl ++ sls)) s' → vs.length = as.length → Q vs H'
  | .err k ds s' => ∀ cls dd H' F', Next c He Fe H' F' s' → ErrRep c F' cls dd k ds → E cls dd H'
  | .bad => False)
variable {X : Cx} {E : XK} {e : Expr} {es : List Expr} {f : EvF} {as : List (Bool × EvF)} {b : Bool} {κ : Kd}
theorem dp_nil : PA X [] (tP c E []) := ⟨fun pos pins s σ H Q I h => by
  obtain ⟨He, Fe, F, ρ, d, pend, psl, sim, hl, p⟩ := h
  exact pa_nil.run pos pins s σ H Q I (p [] H F (by simpa using sim) rfl)⟩
theorem dp_cons (ha : PE X e (tK c E (if b then .own else .val) f)) (hr : PA X es (tP c E as)) (hs : starEach (e :: es) X.env = (false, eval e X.env) :: starEach es X.env) : PA X (e :: es) (tP c E ((b, f) :: as)) := by
  refine ⟨fun pos pins st σ H Q I h => (pa_cons ha hr hs).run pos pins st σ H Q I ?_⟩
  obtain ⟨He, Fe, F, ρ, s, pend, psl, sim, hl, p⟩ := h
  refine ⟨F, ρ, s, (sim.take hl).sim, ?_⟩
  simp only [evsP] at p
  cases e1 : f ρ s with
  | bad => rw [bnd_bad e1] at p; exact p.elim
  | err k ds s1 => rw [bnd_err e1] at p; exact fun cls dd H' F' n r => p cls dd H' F' (sim.next.trans n) r
  | ok d s1 =>
    rw [bnd_ok e1] at p
    intro v H1 F1 n1 r1
    have y := sim.push n1 r1
    refine ⟨He, Fe, F1, ρ, s1, pend ++ [v], psl ++ [mkSl b d], by simpa using y, hl, ?_⟩
    cases e2 : evsP as ρ s1 with
    | bad => rw [bnd_bad e2] at p; exact p.elim
    | err k ds s2 => rw [bnd_err e2] at p; exact p
    | ok sls s2 =>
      rw [bnd_ok e2] at p
      intro vs H2 F2 y2 hv
      exact p (v :: vs) H2 F2 (by simpa using y2) (by simp [hv])
theorem tP_of {D : Ends} {is : List Nat} (h : tS c E κ (fPar is as) D σ H) : tP c E as σ H (fun vs H1 => vs.length = as.length ∧ is.length = as.length ∧ ∃ He Fe F ρ s sls, SimS c He Fe (σ ++ List.map some vs) H1 F (ρ ++ sls) s ∧ σ.length = ρ.length ∧ is.length = sls.length ∧ (∀ i ∈ is, i < ρ.length) ∧ ∀ σ' H' F', SimS c He Fe σ' H' F' (setSl is sls ρ) s → D.nx σ' H') := by
  obtain ⟨He, Fe, F, ρ, s, sim, p⟩ := h
  refine ⟨He, Fe, F, ρ, s, [], [], by simpa using sim, sim.sl.1, ?_⟩
  simp only [fPar] at p
  cases e : evsP as ρ s with
  | bad => rw [bnd_bad e] at p; exact p.elim
  | err k ds s1 => rw [bnd_err e] at p; exact p
  | ok sls s1 =>
    rw [bnd_ok e] at p
    split at p
    · rename_i hh
      intro vs H1 F1 y hv
      have hz : vs.length = sls.length := by have := y.sl.1; simp [sim.sl.1] at this; exact this
      refine ⟨hv, by omega, He, Fe, F1, ρ, s1, sls, by simpa using y, sim.sl.1, hh.1, hh.2, fun σ' H' F' z => p σ' H' F' z⟩
    · exact p.elim
/-- stored from the right (two plain local names) -/
theorem dS_par2 {i j : Nat} {x y : Str} {a b : Expr} {px py pt pos : Pos} {kt k2 pt2} (hc : X.calm = true) (hN : X.N.Nodup) (hi : X.N[i]? = some x) (hj : X.N[j]? = some y) (hij : i ≠ j)
    (hx : X.env.scope.names.lookup x = some .local) (hy : X.env.scope.names.lookup y = some .local) (ha : PA X [a, b] (tP c E as))
    (hw : swappedStores [.Tuple [.Name x px, .Name y py] kt pt] (.Tuple [a, b] k2 pt2) X.env = pure (some [x, y]))
    (hs : swapsWithSole [.Tuple [.Name x px, .Name y py] kt pt] (.Tuple [a, b] k2 pt2) pos.line X.env = pure false) :
    PS X (.Assign [.Tuple [.Name x px, .Name y py] kt pt] (.Tuple [a, b] k2 pt2) pos) (tS c E κ (fPar [i, j] as)) :=
  (ps_par hc hN hi hj hij hx hy ha hw hs).imp fun D σ H h => by
    have q := tP_of h
    obtain ⟨He, Fe, F, ρ, s, pend, psl, sim, hl, p⟩ := q
    refine ⟨He, Fe, F, ρ, s, pend, psl, sim, hl, ?_⟩
    cases e : evsP as ρ s with
    | bad => rw [e] at p; exact p
    | err k ds s1 => rw [e] at p; exact p
    | ok sls s1 =>
      rw [e] at p
      intro vs H' F' y hv
      obtain ⟨h1, h2, He, Fe, F, ρ, s, sls, sim, hl, h3, h4, q⟩ := p vs H' F' y hv
      have hz : vs.length = 2 := by rw [h1, ← h2]; rfl
      match vs, hz with
      | [v, w], _ => exact ⟨v, w, rfl, q _ _ _ (sim.storeAll hl h3 h4)⟩
/-- the names of a pair, stored from the left -/
def tGsP (c : Cfg) (is : List Nat) : TGs := fun vs σ H Q => ∃ He Fe F ρ s sls, SimS c He Fe (σ ++ List.map some vs) H F (ρ ++ sls) s ∧ σ.length = ρ.length ∧ is.length = sls.length ∧ (∀ i ∈ is, i < ρ.length) ∧ ∀ σ' F', SimS c He Fe σ' H F' (setSl is sls ρ) s → Q σ' H
theorem dgP_nil : PGs X [] (tGsP c []) := pgs_nil.imp fun vs σ H Q ⟨He, Fe, F, ρ, s, sls, sim, hl, h3, h4, q⟩ => by
  cases sls with
  | cons a b => simp at h3
  | nil =>
    cases vs with
    | cons v vs => have := sim.sl.1; simp [hl] at this
    | nil => exact ⟨rfl, q σ F (by simpa [setSl] using sim)⟩
theorem dgP_cons {i : Nat} {is : List Nat} {x : Str} {px : Pos} (hN : X.N.Nodup) (hi : X.N[i]? = some x) (hx : Loc X.env.scope x) (hf : X.fn x = true ∨ X.env.scope.names.lookup x = some .local) (h2 : PGs X es (tGsP c is)) (ha : (assignEach (.Name x px :: es) X.env).map (·.2) = assign (.Name x px) X.env :: (assignEach es X.env).map (·.2)) : PGs X (.Name x px :: es) (tGsP c (i :: is)) :=
  (pgs_cons (pg_name hN hi hx hf) h2 ha).imp fun vs σ H Q ⟨He, Fe, F, ρ, s, sls, sim, hl, h3, h4, q⟩ => by
    cases sls with
    | nil => simp at h3
    | cons sl sls =>
      cases vs with
      | nil => have := sim.sl.1; simp [hl] at this
      | cons v vs =>
        refine ⟨v, vs, rfl, He, Fe, F, _, s, sls, sim.store hl (h4 i List.mem_cons_self), by simp [hl], by simpa using h3, fun j hj => by rw [List.length_set]; exact h4 j (List.mem_cons_of_mem _ hj), q⟩
/-- a, b = e1, e2, stored from the left (some name is a cell, or more than three) -/
theorem dS_par {is : List Nat} {ts : List Expr} {kt k2 : Nat} {pt p2 pos : Pos} (hc : X.calm = true) (ha : PA X es (tP c E as)) (hg : PGs X ts (tGsP c is)) (hn : (assignEach ts X.env).length = is.length) (hst : (assignEach ts X.env).findIdx? (·.1) = none) (hlen : as.length ≤ 100)
    (hs : swapsWithSole [.Tuple ts kt pt] (.Tuple es k2 p2) pos.line X.env = pure false) (hw : swappedStores [.Tuple ts kt pt] (.Tuple es k2 p2) X.env = pure none) (h1 : (assignEach [.Tuple ts kt pt] X.env).map (·.2) = [assign (.Tuple ts kt pt) X.env]) :
    PS X (.Assign [.Tuple ts kt pt] (.Tuple es k2 p2) pos) (tS c E κ (fPar is as)) :=
  (ps_asg (pe_tup ha) (pg_tup hc hg hn hst) hs hw h1).imp fun D σ H h => by
    have q := tP_of h
    obtain ⟨He, Fe, F, ρ, s, pend, psl, sim, hl, p⟩ := q
    refine ⟨He, Fe, F, ρ, s, pend, psl, sim, hl, ?_⟩
    cases e : evsP as ρ s with
    | bad => rw [e] at p; exact p
    | err k ds s1 => rw [e] at p; exact p
    | ok sls s1 =>
      rw [e] at p
      intro vs H' F' y hv
      obtain ⟨h1, h2, He, Fe, F, ρ, s, sls, sim, hl, h3, h4, q⟩ := p vs H' F' y hv
      refine ⟨by rw [hv, sizeLine_eq]; omega, fun p hp => ⟨p, vs, rfl, SqT.of upd_same, by rw [hv, ← h2], ?_⟩⟩
      have n : Next c H' F (upd H' p (.tup vs)) F s := Next.laid sim.next.wf hp
      exact ⟨He, Fe, F, ρ, s, sls, sim.on n, hl, h3, h4, fun σ' F' z => q _ _ _ z⟩
end
end Mn

/-! Mn11: names for what the printed texts use. -/
namespace Mn
open PySem PySem.Spec PyProof.Rows L2

abbrev gEq : D → D → Option D := fun a b => (eqO a b).map D.bl
abbrev gNe : D → D → Option D := fun a b => ((eqO a b).map (!·)).map D.bl
abbrev gLt : D → D → Option D := fun a b => (cmpI (fun i j => decide (i < j)) a b).map D.bl
abbrev gLe : D → D → Option D := fun a b => (cmpI (fun i j => decide (i ≤ j)) a b).map D.bl
abbrev gGt : D → D → Option D := fun a b => (cmpI (fun i j => decide (j < i)) a b).map D.bl
abbrev gGe : D → D → Option D := fun a b => (cmpI (fun i j => decide (j ≤ i)) a b).map D.bl
abbrev gIn : D → D → Option D := fun a b => (inD a b).map D.bl
abbrev gNotIn : D → D → Option D := fun a b => ((inD a b).map (!·)).map D.bl
abbrev gIs : D → D → Option D := fun a b => match b with
    | .non => some (.bl (isNon a))
    | _ => none
abbrev gIsNot : D → D → Option D := fun a b => match b with
    | .non => some (.bl (!isNon a))
    | _ => none
theorem room_u {k : Nat} {A : Around} (h : Room k A) : A.units + 65 < cLine := by have := h.un; omega
/-- the built-ins' names stand for the built-ins -/
structure Bi (mg : Str → Option Value) : Prop where
  len : mg "len" = none
  range : mg "range" = none
  list : mg "list" = none
  tuple : mg "tuple" = none
  all : mg "all" = none
  any : mg "any" = none
  sum : mg "sum" = none
  max : mg "max" = none
  min : mg "min" = none
  abs : mg "abs" = none
  int : mg "int" = none
  enumerate : mg "enumerate" = none
  zip : mg "zip" = none
  sorted : mg "sorted" = none
  set : mg "set" = none
  dict : mg "dict" = none
  repr : mg "repr" = none
  isinstance : mg "isinstance" = none
  bool : mg "bool" = none
  str : mg "str" = none
  ValueError : mg "ValueError" = none
/-- a type: a built-in one, an own class by number -/
inductive Ty where
  | bi (n : String) | own (k : Nat)
  /-- an error's class, as what an error is of -/
  | ex (k : Nat)
def tyOf : D → Option Ty
  | .non => some (.bi "NoneType")
  | .bl _ => some (.bi "bool")
  | .int _ => some (.bi "int")
  | .str _ => some (.bi "str")
  | .lst _ => some (.bi "list")
  | .tup _ => some (.bi "tuple")
  | .dK _ => some (.bi "dict")
  | .dT _ => some (.bi "dict")
  | .ins k _ => some (.own k)
  | .exc k _ => some (.ex k)
  | _ => none
/-- what isinstance answers of a type and a class; kt: where an own class is asked -/
def kitD (kt : Ty → Ty → Option Bool) : Ty → Ty → Option Bool
  | .bi a, .bi b => kitB a b
  | t, u => kt t u
def anyK (kt : Ty → Ty → Option Bool) (t : Ty) : List Ty → Option Bool
  | [] => some false
  | u :: r => match kitD kt t u with
    | some true => some true
    | some false => anyK kt t r
    | none => none
def isiD (kt : Ty → Ty → Option Bool) (us : List Ty) (d : D) : Option Bool := (tyOf d).bind fun t => anyK kt t us
def eIsi (kt : Ty → Ty → Option Bool) (us : List Ty) (f : EvF) : EvF := fun ρ => (f ρ).bnd fun d => lift ((isiD kt us d).map D.bl)
/-- a type's value -/
def TyV (c : Cfg) : Ty → V → Value → Prop
  | .bi n, v, u => v = .ty n ∧ u = .type n
  | .own k, v, u => ∃ C fs, c.cls k = some (C, fs) ∧ v = .ref C ∧ u = .ref C
  | .ex k, v, u => ∃ C fs, c.cls k = some (C, fs) ∧ v = .ref C ∧ u = .ref C
/-- a value's type: data's, an error's -/
inductive TyM (K : PySem.W.Frag) (H : Hp) : V → Value → Prop where
  | base {x : V} {t : Value} (h : TyX K H x t) : TyM K H x t
  | exc {a C : Addr} {d : Option Addr} {φ : Heap → Prop} (e : H a = some (.ext φ)) (hφ : ∀ h, φ h → ∃ oe, h.get? a = some oe ∧ Zc (.ref C) d oe ∧ ∃ vs, oe.data = .fields vs)
      (hd : d = none ∨ ∃ dd fs, d = some dd ∧ H dd = some (.xd fs)) (T : ExcC K C) : TyM K H (.ref a) (.ref C)
section
variable {X : Cx} {pins : List (Addr × Obj)} {σ : L2.St} {H : Hp} {s : Shared}
theorem exc_inst {a C : Addr} {d : Option Addr} {φ : Heap → Prop} (I : Inv X pins σ H s) (e : H a = some (.ext φ)) (hφ : ∀ h, φ h → ∃ oe, h.get? a = some oe ∧ Zc (.ref C) d oe ∧ ∃ vs, oe.data = .fields vs) (hd : d = none ∨ ∃ dd fs, d = some dd ∧ H dd = some (.xd fs)) :
    ∃ (oe : Obj) (od : Option Obj), PySem.W.InstAt s.heap a oe C od := by
  have x : ObjOk X.prog X.w H s.heap a (.ext φ) := I.hok a _ e
  obtain ⟨oe, h1, hz, vs, hv⟩ := hφ _ x.1
  obtain ⟨oc, oo, oda, osl⟩ := oe
  obtain ⟨z1, z2⟩ := hz
  dsimp only at z1 z2 hv
  subst z1 z2 hv
  rcases hd with rfl | ⟨dd, fs, rfl, hdd⟩
  · exact ⟨_, none, h1, rfl, rfl, trivial⟩
  · have y : ObjOk X.prog X.w H s.heap dd (.xd fs) := I.hok dd _ hdd
    obtain ⟨mA, ⟨o, es, ep, ho, hr⟩, _⟩ := y
    exact ⟨_, some o, h1, rfl, rfl, ho⟩
theorem kit_ofM {x : V} {u t : Value} (I : Inv X pins σ H s) (rx : RelV x u) (ty : TyM X.K H x t) : ∃ P : Heap → Prop, PySem.W.KitX X.K u t P ∧ P s.heap ∧ u ≠ .builtin "__main__.__loader__#opaque" := by
  cases ty with
  | base b => exact kit_of I rx b
  | @exc a C d φ e hφ hd T =>
    cases (show u = Value.ref a from rx)
    obtain ⟨oe, od, J⟩ := exc_inst I e hφ hd
    obtain ⟨cd, hc, _⟩ := PySem.W.any_some T.hd
    exact ⟨_, PySem.W.kitx_exc (by rw [hc]; rfl) T.hg T.hk T.hs T.ha T.hn T.ht T.hm, J, fun z => nomatch z⟩
def rIsiM (K : PySem.W.Frag) : List V → Hp → VK → Prop := fun xs H Q => ∃ (x c : V) (t u : Value) (b : Bool), xs = [x, c] ∧ ClsV c u ∧ TyM K H x t ∧ PySem.W.kitOne K t u = some b ∧ Q (.bl b) H
def rIsiTM (K : PySem.W.Frag) : List V → Hp → VK → Prop := fun xs H Q => ∃ (x : V) (tp : Addr) (cs : List V) (t : Value) (us : List Value) (b : Bool), xs = [x, .ref tp] ∧ H tp = some (.tup cs) ∧ Paired ClsV cs us ∧ TyM K H x t ∧ PySem.W.kitAny K t us = some b ∧ Q (.bl b) H
theorem call_isiM : CallR X (.builtin "isinstance") (rIsiM X.K) := by
  intro pins s σ H xs us Q I r h
  obtain ⟨x, c, t, u, b, rfl, k, ty, e, q⟩ := h
  obtain ⟨u1, u2, rfl, r1, r2⟩ := vals2 r
  have e2 := k.eq r2
  subst e2
  obtain ⟨P, Z, p, hx⟩ := kit_ofM I r1 ty
  exact PySem.W.kia_one Z I.kIn p e hx fun tk => ⟨.bl b, H, I.tok tk, rfl, q⟩
theorem call_isiTM : CallR X (.builtin "isinstance") (rIsiTM X.K) := by
  intro pins s σ H xs us Q I r h
  obtain ⟨x, tp, cs, t, ws, b, rfl, hT, k, ty, e, q⟩ := h
  obtain ⟨u1, u2, rfl, r1, r2⟩ := vals2 r
  cases (show u2 = Value.ref tp from r2)
  obtain ⟨P, Z, p, hx⟩ := kit_ofM I r1 ty
  obtain ⟨_, its, rv, o, h1, h2, n, h3⟩ := (show ObjOk X.prog X.w H s.heap tp (.tup cs) from I.hok tp _ hT)
  have e3 := ClsV.all k rv
  subst e3
  obtain ⟨oc, od, dt, sl⟩ := o
  simp only at h2 h3
  subst h2 h3
  exact PySem.W.kia_tup Z I.kIn p h1 e hx fun tk => ⟨.bl b, H, I.tok tk, rfl, q⟩
end
/-- what every body knows -/
structure Kn (K : PySem.W.Frag) (mg : Str → Option Value) (c : Cfg) (kt : Ty → Ty → Option Bool) : Prop where
  eK : K = c.K
  ncl : ¬ c.clo .non
  b : Bi mg
  kit : ∀ t u v1 v2 w1 w2 b, kt t u = some b → TyV c t v1 w1 → TyV c u v2 w2 → PySem.W.kitOne K w1 w2 = some b
  ins : ∀ k C fs u b, c.cls k = some (C, fs) → kt (.own k) u = some b → C8.InsC K C
  exi : ∀ k C fs u b, c.cls k = some (C, fs) → kt (.ex k) u = some b → ExcC K C
/-- the class of the name x is the one numbered k -/
def Gc (mg : Str → Option Value) (c : Cfg) (x : Str) (k : Nat) : Prop := ∃ C fs, mg x = some (.ref C) ∧ c.cls k = some (C, fs)
section
variable {X : Cx} {c : Cfg} {E : XK} {κ : Kd} {kt : Ty → Ty → Option Bool} {e n : Expr} {f : EvF} {p pos : Pos} {u : Ty} {us : List Ty}
/-- a class as it is written -/
def ClE (X : Cx) (c : Cfg) (n : Expr) (u : Ty) : Prop := ∃ v w, PE X n (tC v) ∧ ClsV v w ∧ TyV c u v w
theorem cl_bi {x : Str} {T : String} (hg : Gl X x) (hm : X.mg x = none) (hv : bootBuiltins x = some (.type T)) (hn : x ≠ "__name__") (hd : (x == ("__debug__" : Str)) = false) : ClE X c (.Name x pos) (.bi T) :=
  ⟨.ty T, .type T, pe_bltn hg hm hv rfl hn hd, .ty T, rfl, rfl⟩
theorem cl_own {x : Str} {k : Nat} (h : Gc X.mg c x k) (hg : Gl X x) (hd : (x == ("__debug__" : Str)) = false) : ClE X c (.Name x pos) (.own k) := by
  obtain ⟨C, fs, h1, h2⟩ := h
  exact ⟨.ref C, .ref C, pe_glob hg h1 rfl hd, .own C, C, fs, h2, rfl, rfl⟩
theorem ty_of {K : PySem.W.Frag} {mg : Str → Option Value} {F H H0 : Hp} {s : DS} {v : V} {d : D} {t u : Ty} {b : Bool} (T : Kn K mg c kt) (w : Wf c H F s) (r : RepK c .bor H0 F H v d) (h : tyOf d = some t) (hk : kitD kt t u = some b) : ∃ v1 w1, TyV c t v1 w1 ∧ TyM K H v w1 := by
  rcases r with r | ⟨p, rfl, _, _, h3⟩
  · cases r with
    | non => cases h; exact ⟨_, _, ⟨rfl, rfl⟩, .base (.base .non)⟩
    | bl b => cases h; exact ⟨_, _, ⟨rfl, rfl⟩, .base (.base (.bl b))⟩
    | int b => cases h; exact ⟨_, _, ⟨rfl, rfl⟩, .base (.base (.int b))⟩
    | str b => cases h; exact ⟨_, _, ⟨rfl, rfl⟩, .base (.base (.str b))⟩
    | lst a r => cases h; exact ⟨_, _, ⟨rfl, rfl⟩, .base (.base (.lst (w.sub _ _ a)))⟩
    | tup a r => cases h; exact ⟨_, _, ⟨rfl, rfl⟩, .base (.base (.tup (w.sub _ _ a)))⟩
    | dK a r _ => cases h; exact ⟨_, _, ⟨rfl, rfl⟩, .base (.base (.dK (w.sub _ _ a)))⟩
    | dT a r _ => cases h; exact ⟨_, _, ⟨rfl, rfl⟩, .base (.base (.dT (w.sub _ _ a)))⟩
    | ins a hc r =>
      cases h
      have I : C8.InsC K _ := T.ins _ _ _ u b hc (by
        unfold kitD at hk
        exact hk)
      exact ⟨_, _, ⟨_, _, hc, rfl, rfl⟩, .base (.base (.ins (w.sub _ _ a) I.cl I.ha I.hn I.htk I.hm))⟩
    | exc a hφ hc hd r =>
      cases h
      have I : ExcC K _ := T.exi _ _ _ u b hc (by
        unfold kitD at hk
        exact hk)
      refine ⟨_, _, ⟨_, _, hc, rfl, rfl⟩, .exc (w.sub _ _ a) hφ ?_ I⟩
      rcases hd with ⟨_, e⟩ | ⟨dd, e1, e2⟩
      · exact .inl e
      · exact .inr ⟨dd, _, e1, w.sub _ _ e2⟩
    | _ => cases h
  · cases d with
    | lst ds => cases h; obtain ⟨xs, h1, _⟩ := h3; exact ⟨_, _, ⟨rfl, rfl⟩, .base (.base (.lst h1))⟩
    | dK ds => cases h; obtain ⟨xs, h1, _⟩ := h3; exact ⟨_, _, ⟨rfl, rfl⟩, .base (.base (.dK h1))⟩
    | dT ds => cases h; obtain ⟨xs, h1, _⟩ := h3; exact ⟨_, _, ⟨rfl, rfl⟩, .base (.base (.dT h1))⟩
    | _ => exact h3.elim
theorem kit_one {K : PySem.W.Frag} {mg : Str → Option Value} {t u : Ty} {v1 v2 : V} {w1 w2 : Value} {b : Bool} (T : Kn K mg c kt) (h : kitD kt t u = some b) (h1 : TyV c t v1 w1) (h2 : TyV c u v2 w2) : PySem.W.kitOne K w1 w2 = some b := by
  cases t with
  | bi a =>
    cases u with
    | bi z =>
      obtain ⟨_, rfl⟩ := h1
      obtain ⟨_, rfl⟩ := h2
      exact kit_ty h
    | own k => exact T.kit _ _ _ _ _ _ b h h1 h2
    | ex k => exact T.kit _ _ _ _ _ _ b h h1 h2
  | own k => exact T.kit _ _ _ _ _ _ b h h1 h2
  | ex k => exact T.kit _ _ _ _ _ _ b h h1 h2
theorem isi_tK {t2 : TE} {σ : L2.St} {H : Hp} {Q : VK} {R : List V → Hp → VK → Prop} (h : tK c E κ (eIsi kt us f) σ H Q) (hR : ∀ (v : V) (H1 F1 : Hp) (s1 : DS) (d : D) (b : Bool), Wf c H1 F1 s1 → RepK c .bor H F1 H1 v d → isiD kt us d = some b → Cont c κ H1 F1 s1 (.bl b) Q → t2 σ H1 (fun y H2 => R [v, y] H2 Q)) :
    tCB R (tCons (tK c E .bor f) (tCons t2 tNil)) σ H Q := by
  obtain ⟨F, ρ, s, sim, p⟩ := h
  refine ⟨F, ρ, s, sim, (Post.bnd (κ' := .bor) p).mono fun v H1 ⟨d, s1, F1, n1, r1, p1⟩ => ?_⟩
  obtain ⟨d', e, q⟩ := p1.end
  obtain ⟨b, e1, rfl⟩ := Option.map_eq_some_iff.mp e
  exact hR v H1 F1 s1 d b n1.wf r1 e1 q
theorem de_isi (T : Kn X.K X.mg c kt) (hg : Gl X "isinstance") (he : PE X e (tK c E .bor f)) (hn : ClE X c n u) (hs : starEach [e, n] X.env = (false, eval e X.env) :: starEach [n] X.env) (hs2 : starEach [n] X.env = (false, eval n X.env) :: starEach [] X.env) (hpl : (backTo pos (starEach [n] X.env)).any (·.1) = false) :
    PE X (.Call (.Name "isinstance" p) [e, n] [] pos) (tK c E κ (eIsi kt [u] f)) := by
  obtain ⟨v, w, hv, hc, hty⟩ := hn
  refine (pe_callB call_isiM hg T.b.isinstance (by decide +kernel) (pa_cons he (pa_cons hv pa_nil hs2) hs) (by decide) rfl hs hpl).imp fun σ H Q h => ?_
  refine isi_tK h fun x H1 F1 s1 d b wf r e q => ?_
  unfold isiD at e
  obtain ⟨t, ht, e⟩ := Option.bind_eq_some_iff.mp e
  have ek : kitD kt t u = some b := by
    unfold anyK at e
    split at e
    · cases e; assumption
    · cases e; assumption
    · cases e
  obtain ⟨v1, w1, t1, t2⟩ := ty_of T wf r ht ek
  exact ⟨x, v, w1, w, b, rfl, hc, t2, kit_one T ek t1 hty, q.same wf (.bl b)⟩
theorem any_kit {K : PySem.W.Frag} {mg : Str → Option Value} {t u1 u2 : Ty} {v v1 v2 : V} {w w1 w2 : Value} {b : Bool} (T : Kn K mg c kt) (ht : TyV c t v w) (h1 : TyV c u1 v1 w1) (h2 : TyV c u2 v2 w2) (h : anyK kt t [u1, u2] = some b) : PySem.W.kitAny K w [w1, w2] = some b := by
  simp only [anyK] at h
  split at h
  · rename_i e; cases h
    exact kitAny_cons (kit_one T e ht h1) (fun z => by cases z) fun _ => rfl
  · rename_i e
    refine kitAny_cons (kit_one T e ht h1) (fun _ => ?_) (fun z => by cases z)
    split at h
    · rename_i e2; cases h
      exact kitAny_cons (kit_one T e2 ht h2) (fun z => by cases z) fun _ => rfl
    · rename_i e2; cases h
      exact kitAny_cons (kit_one T e2 ht h2) (fun _ => kitAny_nil) (fun z => by cases z)
    · cases h
  · cases h
theorem de_isi2 {n2 : Expr} {u2 : Ty} {kk : Nat} {tpos : Pos} (T : Kn X.K X.mg c kt) (hg : Gl X "isinstance") (he : PE X e (tK c E .bor f)) (hn : ClE X c n u) (hn2 : ClE X c n2 u2) (hs : starEach [e, .Tuple [n, n2] kk tpos] X.env = (false, eval e X.env) :: starEach [.Tuple [n, n2] kk tpos] X.env) (hs2 : starEach [.Tuple [n, n2] kk tpos] X.env = (false, eval (.Tuple [n, n2] kk tpos) X.env) :: starEach [] X.env) (hpl : (backTo pos (starEach [.Tuple [n, n2] kk tpos] X.env)).any (·.1) = false)
    (hs3 : starEach [n, n2] X.env = (false, eval n X.env) :: starEach [n2] X.env) (hs4 : starEach [n2] X.env = (false, eval n2 X.env) :: starEach [] X.env) :
    PE X (.Call (.Name "isinstance" p) [e, .Tuple [n, n2] kk tpos] [] pos) (tK c E κ (eIsi kt [u, u2] f)) := by
  obtain ⟨v, w, hv, hc, hty⟩ := hn
  obtain ⟨v2, w2, hv2, hc2, hty2⟩ := hn2
  refine (pe_callB call_isiTM hg T.b.isinstance (by decide +kernel) (pa_cons he (pa_cons (pe_tup (pa_cons hv (pa_cons hv2 pa_nil hs4) hs3)) pa_nil hs2) hs) (by decide) rfl hs hpl).imp fun σ H Q h => ?_
  refine isi_tK h fun x H1 F1 s1 d b wf r e q => ?_
  unfold isiD at e
  obtain ⟨t, ht, e⟩ := Option.bind_eq_some_iff.mp e
  have ek : ∃ b0, kitD kt t u = some b0 := by
    unfold anyK at e
    split at e
    · exact ⟨_, by assumption⟩
    · exact ⟨_, by assumption⟩
    · cases e
  obtain ⟨b0, ek⟩ := ek
  refine ⟨by rw [sizeLine_eq]; show 2 ≤ 16777216; decide, fun tp htp => ?_⟩
  have n1 : Next c H1 F1 (upd H1 tp (.tup [v, v2])) F1 s1 := Next.laid wf htp
  have r' : RepK c .bor H F1 (upd H1 tp (.tup [v, v2])) x d := r.next n1
  obtain ⟨v1, w1, t1, t2⟩ := ty_of T n1.wf r' ht ek
  exact ⟨x, tp, [v, v2], w1, [w, w2], b, rfl, upd_same, .cons hc (.cons hc2 .nil), t2, any_kit T t1 hty hty2 e, q _ _ _ n1 (up_rep (.bl b))⟩
end
/-- the names of a comprehension's block, checked -/
def blkB (N : List Str) (names : List (Str × NameKind)) (scope : Scope) (own : List (Str × Nat)) : Bool :=
  decide (scope.kind = .function) && scope.names.all (fun y => decide (scope.names.lookup y.1 = some y.2)) && own.all (fun p => decide (N[p.2]? = some p.1)) &&
  scope.names.all (fun y => decide (y.2 = .free → names.lookup y.1 = some .cell ∨ names.lookup y.1 = some .free)) && scope.names.all (fun y => decide (y.2 = .local ∨ y.2 = .cell → y.1 ∈ own.map (·.1) ∨ y.1 ∉ N))
theorem blk_of {N : List Str} {sc scope : Scope} {own : List (Str × Nat)} (names : List (Str × NameKind)) (hn : sc.names = names) (h : blkB N names scope own = true) : BlkOk N sc scope own := by
  unfold blkB at h
  simp only [Bool.and_eq_true, decide_eq_true_eq, List.all_eq_true] at h
  obtain ⟨⟨⟨⟨h1, h2⟩, h3⟩, h4⟩, h5⟩ := h
  rw [← hn] at h4
  exact ⟨h1, h2, h3, h4, h5⟩
end Mn

/-! Mn12: what a slot holds alone is written: x[i] = v, x.append(v), x.append(y.pop(i)); x += 1; {}. -/
namespace Mn
open PySem PySem.Spec PyProof.Rows L2

/-- d[k] = v -/
def setD (d k v : D) : Option D := match d, k with
  | .lst ds, .int i => (L2.ixN ds.length i).map fun j => .lst (ds.set j v)
  | .dK kvs, k => match keyD k with
    | some k => if kvs.length < line then some (.dK (putD kvs k v)) else none
    | none => none
  | .dT kvs, .tup ks => match keysD ks with
    | some k => if kvs.length < line then some (.dT (putD kvs k v)) else none
    | none => none
  | _, _ => none
/-- x[e] = v: x holds it alone -/
def fSetIx (i : Nat) (fi fv : EvF) : StF := fun ρ => match ρ[i]? with
  | some (.own d) => (fv ρ).bnd fun v => (fi ρ).bnd fun k => (lift (setD d k v)).bnd fun d' => M.ret (.nx (ρ.set i (.own d')))
  | _ => bad
def fAppend (i : Nat) (fv : EvF) : StF := fun ρ => match ρ[i]? with
  | some (.own (.lst ds)) => (fv ρ).bnd fun v => if ds.length < line then M.ret (.nx (ρ.set i (.own (.lst (ds ++ [v]))))) else bad
  | _ => bad
/-- x.append(y.pop(e)) -/
def fAppPop (i j : Nat) (fe : EvF) : StF := fun ρ => match ρ[i]?, ρ[j]? with
  | some (.own (.lst ds)), some (.own (.lst es)) => if i = j then bad else (fe ρ).bnd fun k => match k with
    | .int k => (lift (L2.ixN es.length k)).bnd fun n => (lift es[n]?).bnd fun v => if ds.length < line ∧ es.length ≤ line then M.ret (.nx ((ρ.set j (.own (.lst (es.eraseIdx n)))).set i (.own (.lst (ds ++ [v]))))) else bad
    | _ => bad
  | _, _ => bad
section
variable {c : Cfg} {F : Hp}
theorem reps_put {κ : Type} [DecidableEq κ] {v : V} {d : D} (k : κ) (r : Rep c F v d) : ∀ {kvs : List (κ × V)} {es : List (κ × D)}, kvs.map (·.1) = es.map (·.1) → Reps c F (kvs.map (·.2)) (es.map (·.2)) → (kvs.map fun kv => if kv.1 = k then (kv.1, v) else kv).map (·.1) = (es.map fun kv => if kv.1 = k then (kv.1, d) else kv).map (·.1) ∧ Reps c F ((kvs.map fun kv => if kv.1 = k then (kv.1, v) else kv).map (·.2)) ((es.map fun kv => if kv.1 = k then (kv.1, d) else kv).map (·.2))
  | [], [], _, _ => ⟨rfl, .nil⟩
  | [], _ :: _, h, _ => by simp at h
  | _ :: _, [], h, _ => by simp at h
  | p :: t, q :: u, h, z => by
    simp only [List.map_cons, List.cons.injEq] at h
    simp only [List.map_cons] at z ⊢
    cases z with
    | cons za zr =>
      obtain ⟨h1, h2⟩ := reps_put k r h.2 zr
      by_cases e : p.1 = k
      · have e' : q.1 = k := h.1 ▸ e
        rw [if_pos e, if_pos e']
        exact ⟨by rw [List.cons.injEq]; exact ⟨h.1, h1⟩, .cons r h2⟩
      · have e' : ¬ q.1 = k := fun w => e (h.1.trans w)
        rw [if_neg e, if_neg e']
        exact ⟨by rw [List.cons.injEq]; exact ⟨h.1, h1⟩, .cons za h2⟩
theorem reps_putD {κ : Type} [DecidableEq κ] {v : V} {d : D} {kvs : List (κ × V)} {es : List (κ × D)} (k : κ) (r : Rep c F v d) (h : kvs.map (·.1) = es.map (·.1)) (z : Reps c F (kvs.map (·.2)) (es.map (·.2))) : (putK kvs k v).map (·.1) = (putD es k d).map (·.1) ∧ Reps c F ((putK kvs k v).map (·.2)) ((putD es k d).map (·.2)) := by
  have ha : (es.any fun kv => decide (kv.1 = k)) = (kvs.any fun kv => decide (kv.1 = k)) := by
    have e1 : (es.any fun p => decide (p.1 = k)) = (es.map (·.1)).any fun z => decide (z = k) := by rw [List.any_map]; rfl
    have e2 : (kvs.any fun p => decide (p.1 = k)) = (kvs.map (·.1)).any fun z => decide (z = k) := by rw [List.any_map]; rfl
    rw [e1, e2, h]
  unfold putK putD
  rw [ha]
  split
  · exact reps_put k r h z
  · rw [List.map_append, List.map_append, List.map_append, List.map_append, h]
    exact ⟨rfl, z.append (.cons r .nil)⟩
end
section
variable {X : Cx} {c : Cfg} {E : XK} {κ : Kd} {e : Expr} {f fi fv : EvF} {pos p2 p3 : Pos} {He Fe H F H' F' : Hp} {s s' : DS} {σ : L2.St} {ρ : Env} {D : Ends} {x y : Str} {i j : Nat}
theorem PSet.or {t t' : TSet} (h : PSet X t) (h' : PSet X t') : PSet X (fun o i v H Q => t o i v H Q ∨ t' o i v H Q) := by
  intro pins s σ H o i v ov iv u Q I ro ri rv h0
  rcases h0 with h0 | h0
  · exact h pins s σ H o i v ov iv u Q I ro ri rv h0
  · exact h' pins s σ H o i v ov iv u Q I ro ri rv h0
theorem setIx_inv {D : Ends} (p : PostS c E κ He Fe D (fSetIx i fi fv ρ s)) : ∃ d, ρ[i]? = some (.own d) ∧ PostS c E κ He Fe D (((fv ρ).bnd fun v => (fi ρ).bnd fun k => (lift (setD d k v)).bnd fun d' => M.ret (.nx (ρ.set i (.own d')))) s) := by
  simp only [fSetIx] at p
  cases hd : ρ[i]? with
  | none => rw [hd] at p; exact p.elim
  | some sl =>
    rw [hd] at p
    cases sl with
    | own d => exact ⟨d, rfl, p⟩
    | _ => exact p.elim
theorem append_inv {D : Ends} (p : PostS c E κ He Fe D (fAppend i f ρ s)) : ∃ ds, ρ[i]? = some (.own (.lst ds)) ∧ PostS c E κ He Fe D (((f ρ).bnd fun v => if ds.length < line then M.ret (.nx (ρ.set i (.own (.lst (ds ++ [v]))))) else bad) s) := by
  simp only [fAppend] at p
  cases hd : ρ[i]? with
  | none => rw [hd] at p; exact p.elim
  | some sl =>
    rw [hd] at p
    cases sl with
    | own d =>
      cases d with
      | lst ds => exact ⟨ds, rfl, p⟩
      | _ => exact p.elim
    | _ => exact p.elim
theorem appPop_inv {D : Ends} (p : PostS c E κ He Fe D (fAppPop i j f ρ s)) : ∃ ds es, ρ[i]? = some (.own (.lst ds)) ∧ ρ[j]? = some (.own (.lst es)) ∧ i ≠ j ∧ PostS c E κ He Fe D (((f ρ).bnd fun k => match k with
    | .int k => (lift (L2.ixN es.length k)).bnd fun n => (lift es[n]?).bnd fun v => if ds.length < line ∧ es.length ≤ line then M.ret (.nx ((ρ.set j (.own (.lst (es.eraseIdx n)))).set i (.own (.lst (ds ++ [v]))))) else bad
    | _ => bad) s) := by
  simp only [fAppPop] at p
  cases hd : ρ[i]? with
  | none => rw [hd] at p; exact p.elim
  | some sl =>
    rw [hd] at p
    cases sl with
    | own d =>
      cases d with
      | lst ds =>
        cases hd2 : ρ[j]? with
        | none => rw [hd2] at p; exact p.elim
        | some sl =>
          rw [hd2] at p
          cases sl with
          | own d =>
            cases d with
            | lst es =>
              by_cases hij : i = j
              · simp only [hij, if_true] at p; exact p.elim
              · simp only [hij, if_false] at p; exact ⟨ds, es, rfl, rfl, hij, p⟩
            | _ => exact p.elim
          | _ => exact p.elim
      | _ => exact p.elim
    | _ => exact p.elim
theorem aug_inv {D : Ends} {op : BOp} (p : PostS c E κ He Fe D (fAug i op f ρ s)) : ∃ a, ρ[i]? = some (.val (.int a)) ∧ PostS c E κ He Fe D (((f ρ).bnd fun v => match op, v with
    | .add, .int b => M.ret (.nx (ρ.set i (.val (.int (a + b)))))
    | .sub, .int b => M.ret (.nx (ρ.set i (.val (.int (a - b)))))
    | _, _ => bad) s) := by
  simp only [fAug] at p
  cases hd : ρ[i]? with
  | none => rw [hd] at p; exact p.elim
  | some sl =>
    rw [hd] at p
    cases sl with
    | val d =>
      cases d with
      | int a => exact ⟨a, rfl, p⟩
      | _ => exact p.elim
    | _ => exact p.elim
def rSetX : TSet := fun o i v H Q => rSetL o i v H Q ∨ rSetD o i v H Q
/-- the object of an own slot is written as setD says -/
theorem set_own (sim : SimS c He Fe σ H F ρ s) {d d' k : Mn.D} {v kv : V} {vd : Mn.D} {H0 : Hp} (hi : ρ[i]? = some (.own d)) (rv : Rep c F v vd) (rk : RepK c .bor H0 F H kv k) (e : setD d k vd = some d') :
    ∃ p, σ[i]? = some (some (.ref p)) ∧ ∀ Q : Hp → Prop, (∀ o, SimS c He Fe σ (upd H p o) F (ρ.set i (.own d')) s → Q (upd H p o)) → rSetX (.ref p) kv v H Q := by
  obtain ⟨o, ho, r⟩ := slot_at sim.sim hi
  obtain ⟨w, rfl, p, rfl, h1, h2, h3⟩ := r
  refine ⟨p, ho, fun Q hQ => ?_⟩
  unfold setD at e
  split at e
  · obtain ⟨j, hj, rfl⟩ := Option.map_eq_some_iff.mp e
    cases bor_int rk
    obtain ⟨xs, hp, rx⟩ := h3
    refine .inl ⟨p, xs, _, j, rfl, rfl, hp, by rw [rx.length]; exact hj, hQ _ (sim.write ho hi ⟨_, rfl, rx.set rv j⟩)⟩
  · split at e
    · rename_i kk hk
      split at e <;> cases e
      rename_i hl
      cases bor_key rk hk
      obtain ⟨kvs, hp, hm, rx⟩ := h3
      have hlen : kvs.length < sizeLine := by
        have := congrArg List.length hm
        simp at this
        rw [this, sizeLine_eq]; exact hl
      obtain ⟨h4, h5⟩ := reps_putD kk rv hm rx
      exact .inr ⟨p, _, rfl, DPut.k hp hlen, hQ _ (sim.write ho hi ⟨_, rfl, h4, h5⟩)⟩
    · cases e
  · split at e
    · rename_i kk hk
      split at e <;> cases e
      rename_i hl
      obtain ⟨p1, xs, rfl, f1, f2⟩ := bor_tup sim.next.wf rk
      have hx := keys_vals f2 hk
      subst hx
      obtain ⟨kvs, hp, hm, rx⟩ := h3
      have hlen : kvs.length < sizeLine := by
        have := congrArg List.length hm
        simp at this
        rw [this, sizeLine_eq]; exact hl
      obtain ⟨h4, h5⟩ := reps_putD kk rv hm rx
      exact .inr ⟨p, _, rfl, DPut.t hp f1 hlen, hQ _ (sim.write ho hi ⟨_, rfl, h4, h5⟩)⟩
    · cases e
  · cases e
theorem dS_setIx {e i3 : Expr} (hu : X.A.units + 65 < cLine) (hi : X.N[i]? = some x) (hv : Vis X.env.scope x) (hd : (x == ("__debug__" : Str)) = false) (hcd : (x == ("__classdict__" : Str)) = false) (he : PE X e (tK c E .val fv)) (hk : PE X i3 (tK c E .bor fi))
    (hs : swapsWithSole [.Subscript (.Name x p2) i3 p3] e pos.line X.env = pure false) (hw : swappedStores [.Subscript (.Name x p2) i3 p3] e X.env = pure none) (h1 : (assignEach [.Subscript (.Name x p2) i3 p3] X.env).map (·.2) = [assign (.Subscript (.Name x p2) i3 p3) X.env])
    (ha : ∀ v, assign (.Subscript (.Name x p2) i3 p3) X.env v = (do
      let ov ← holding [v] (eval (.Name x p2) X.env)
      let iv ← holding [v, ov] (eval i3 X.env)
      standAt p3
      holding [v, ov, iv] (setItem ov iv v)
      release [v, ov, iv] [])) :
    PS X (.Assign [.Subscript (.Name x p2) i3 p3] e pos) (tS c E κ (fSetIx i fi fv)) :=
  (ps_asg he (pg_sub (pe_var hi hv hd hcd) hk (PSet.or set_list (set_dict (by omega))) ha) hs hw h1).imp fun D σ H ⟨He, Fe, F, ρ, s, sim, p⟩ => by
    obtain ⟨d, hd, p⟩ := setIx_inv p
    · refine ⟨F, ρ, s, sim.sim, (PostS.bnd (κ' := .val) p sim.next).mono fun v H1 ⟨vd, s1, F1, n1, r1, p1⟩ => ?_⟩
      have sim1 := sim.on n1
      have r1 : Rep c F1 v vd := r1
      obtain ⟨o, ho, ok⟩ := slot_at sim1.sim hd
      obtain ⟨w, rfl, q, rfl, _⟩ := ok
      refine ⟨.ref q, ho, F1, ρ, s1, sim1.sim, (PostS.bnd (κ' := .bor) p1 sim1.next).mono fun kv H2 ⟨k, s2, F2, n2, r2, p2⟩ => ?_⟩
      have sim2 := sim1.on n2
      cases e2 : setD d k vd with
      | none => rw [e2] at p2; exact p2.elim
      | some d' =>
        rw [e2] at p2
        obtain ⟨q', ho', fin⟩ := set_own sim2 hd (r1.mono n2.leF) r2 e2
        rw [ho] at ho'; cases ho'
        exact fin _ fun o z => p2 _ _ _ z
theorem tyV_lst {K : PySem.W.Frag} {H : Hp} {p : Addr} {xs : List V} (h : H p = some (.lst xs)) : tyV K "list" (.ref p) H := .inl ⟨rfl, xs, SqL.of h⟩
theorem dS_append {apos cpos : Pos} (hi : X.N[i]? = some x) (hv : Vis X.env.scope x) (hd : (x == ("__debug__" : Str)) = false) (hcd : (x == ("__classdict__" : Str)) = false) (he : PE X e (tK c E .val f))
    (hbase : attributeBase (.Name x p2) "append" X.env (eval (.Name x p2) X.env) = eval (.Name x p2) X.env)
    (hfew : ((backTo cpos (starEach [e] X.env)).all (fun x => !x.1) && (backToKw cpos (keywordEach [] X.env)).all (fun x => x.1.isSome) && decide ([e].length + ([] : List Keyword).length + (if ([] : List Keyword).isEmpty then 0 else 1) < 30)) = true)
    (hline : (apos.endLine == cpos.line) = true) (hs : starEach [e] X.env = (false, eval e X.env) :: starEach [] X.env) (hplain : (backTo cpos (starEach [] X.env)).any (·.1) = false)
    (hsw : swapsWith (.Call (.Attribute (.Name x p2) "append" apos) [e] [] cpos) none pos.line X.env = pure false) :
    PS X (.Expr (.Call (.Attribute (.Name x p2) "append" apos) [e] [] cpos) pos) (tS c E κ (fAppend i f)) :=
  (ps_expr (pe_bm PySem.F.plainAttrs_list PySem.F.slot_list_append PySem.F.type_list_append mt_append (pe_var hi hv hd hcd) (pa_cons he pa_nil hs) hbase hfew hline hs hplain) hsw).imp fun D σ H ⟨He, Fe, F, ρ, s, sim, p⟩ => by
    obtain ⟨ds, hd, p⟩ := append_inv p
    · obtain ⟨o, ho, ok⟩ := slot_at sim.sim hd
      obtain ⟨w, rfl, q, rfl, _, _, xs, hq, _⟩ := ok
      refine ⟨.ref q, ho, tyV_lst hq, F, ρ, s, sim.sim, (PostS.bnd (κ' := .val) p sim.next).mono fun v H1 ⟨vd, s1, F1, n1, r1, p1⟩ => ?_⟩
      have sim1 := sim.on n1
      have r1 : Rep c F1 v vd := r1
      obtain ⟨o, ho1, ok⟩ := slot_at sim1.sim hd
      obtain ⟨w, rfl, q', rfl, _, _, xs1, hq1, rx⟩ := ok
      rw [ho] at ho1; cases ho1
      split at p1
      · rename_i hz
        exact ⟨q, xs1, v, rfl, rfl, hq1, by rw [rx.length, sizeLine_eq]; exact hz, p1 _ _ _ (sim1.write ho hd ⟨_, rfl, rx.append (.cons r1 .nil)⟩)⟩
      · exact p1.elim
theorem dS_appPop {apos cpos apos2 cpos2 p4 : Pos} (hi : X.N[i]? = some x) (hv : Vis X.env.scope x) (hd : (x == ("__debug__" : Str)) = false) (hcd : (x == ("__classdict__" : Str)) = false) (hj : X.N[j]? = some y) (hvj : Vis X.env.scope y) (hdj : (y == ("__debug__" : Str)) = false) (hcdj : (y == ("__classdict__" : Str)) = false) (he : PE X e (tK c E .bor f))
    (hbase : attributeBase (.Name x p2) "append" X.env (eval (.Name x p2) X.env) = eval (.Name x p2) X.env)
    (hfew : ((backTo cpos (starEach [.Call (.Attribute (.Name y p4) "pop" apos2) [e] [] cpos2] X.env)).all (fun x => !x.1) && (backToKw cpos (keywordEach [] X.env)).all (fun x => x.1.isSome) && decide (([.Call (.Attribute (.Name y p4) "pop" apos2) [e] [] cpos2] : List Expr).length + ([] : List Keyword).length + (if ([] : List Keyword).isEmpty then 0 else 1) < 30)) = true)
    (hline : (apos.endLine == cpos.line) = true) (hs : starEach [.Call (.Attribute (.Name y p4) "pop" apos2) [e] [] cpos2] X.env = (false, eval (.Call (.Attribute (.Name y p4) "pop" apos2) [e] [] cpos2) X.env) :: starEach [] X.env) (hplain : (backTo cpos (starEach [] X.env)).any (·.1) = false)
    (hbase2 : attributeBase (.Name y p4) "pop" X.env (eval (.Name y p4) X.env) = eval (.Name y p4) X.env)
    (hfew2 : ((backTo cpos2 (starEach [e] X.env)).all (fun x => !x.1) && (backToKw cpos2 (keywordEach [] X.env)).all (fun x => x.1.isSome) && decide ([e].length + ([] : List Keyword).length + (if ([] : List Keyword).isEmpty then 0 else 1) < 30)) = true)
    (hline2 : (apos2.endLine == cpos2.line) = true) (hs2 : starEach [e] X.env = (false, eval e X.env) :: starEach [] X.env) (hplain2 : (backTo cpos2 (starEach [] X.env)).any (·.1) = false)
    (hsw : swapsWith (.Call (.Attribute (.Name x p2) "append" apos) [.Call (.Attribute (.Name y p4) "pop" apos2) [e] [] cpos2] [] cpos) none pos.line X.env = pure false) :
    PS X (.Expr (.Call (.Attribute (.Name x p2) "append" apos) [.Call (.Attribute (.Name y p4) "pop" apos2) [e] [] cpos2] [] cpos) pos) (tS c E κ (fAppPop i j f)) :=
  (ps_expr (pe_bm PySem.F.plainAttrs_list PySem.F.slot_list_append PySem.F.type_list_append mt_append (pe_var hi hv hd hcd) (pa_cons (pe_bm PySem.F.plainAttrs_list PySem.F.slot_list_pop PySem.F.type_list_pop mt_popAt (pe_var hj hvj hdj hcdj) (pa_cons he pa_nil hs2) hbase2 hfew2 hline2 hs2 hplain2) pa_nil hs) hbase hfew hline hs hplain) hsw).imp fun D σ H ⟨He, Fe, F, ρ, s, sim, p⟩ => by
    obtain ⟨ds, es, hd, hd2, hij, p⟩ := appPop_inv p
    · obtain ⟨o, ho, ok⟩ := slot_at sim.sim hd
      obtain ⟨w, rfl, q, rfl, _, _, xs, hq, _⟩ := ok
      obtain ⟨o, ho2, ok⟩ := slot_at sim.sim hd2
      obtain ⟨w, rfl, q2, rfl, _, _, xs2, hq2, _⟩ := ok
      refine ⟨.ref q, ho, tyV_lst hq, .ref q2, ho2, tyV_lst hq2, F, ρ, s, sim.sim, (PostS.bnd (κ' := .bor) p sim.next).mono fun v H1 ⟨k, s1, F1, n1, r1, p1⟩ => ?_⟩
      have sim1 := sim.on n1
      obtain ⟨o, hh, ok⟩ := slot_at sim1.sim hd
      rw [ho] at hh; cases hh
      obtain ⟨w, ew, q', eq, _, _, ys, hqa, ra⟩ := ok
      cases ew; cases eq
      obtain ⟨o, hh, ok⟩ := slot_at sim1.sim hd2
      rw [ho2] at hh; cases hh
      obtain ⟨w, ew, q', eq, _, _, ys2, hqb, rb⟩ := ok
      cases ew; cases eq
      cases k with
      | int k =>
        simp only [] at p1
        cases bor_int r1
        cases e3 : L2.ixN es.length k with
        | none => rw [e3] at p1; exact p1.elim
        | some n =>
          rw [e3] at p1
          cases e4 : es[n]? with
          | none =>
            have p1' : PostS c E κ He Fe D (((lift es[n]?).bnd fun v => if ds.length < line ∧ es.length ≤ line then M.ret (.nx ((ρ.set j (.own (.lst (es.eraseIdx n)))).set i (.own (.lst (ds ++ [v]))))) else bad) s1) := p1
            rw [e4] at p1'; exact p1'.elim
          | some vd =>
            have p1' : PostS c E κ He Fe D (((lift es[n]?).bnd fun v => if ds.length < line ∧ es.length ≤ line then M.ret (.nx ((ρ.set j (.own (.lst (es.eraseIdx n)))).set i (.own (.lst (ds ++ [v]))))) else bad) s1) := p1
            rw [e4] at p1'
            have p2 : PostS c E κ He Fe D ((if ds.length < line ∧ es.length ≤ line then M.ret (.nx ((ρ.set j (.own (.lst (es.eraseIdx n)))).set i (.own (.lst (ds ++ [vd]))))) else bad) s1) := p1'
            split at p2
            · rename_i hz
              obtain ⟨v, hv1, hv2⟩ := rb.at e4
              obtain ⟨g1, g2, g3, g4⟩ := ixN_seq e3
              have hl : es.length ≤ sizeLine := by rw [sizeLine_eq]; exact hz.2
              have hl63 := line63
              refine ⟨q2, ys2, k, n, v, rfl, rfl, hqb, by omega, by omega, by rw [rb.length]; exact g1, hv1, ?_⟩
              have simw := sim1.write ho2 hd2 (o := .lst (ys2.eraseIdx n)) (d' := .lst (es.eraseIdx n)) ⟨_, rfl, rb.erase n⟩
              have hdw : (ρ.set j (.own (.lst (es.eraseIdx n))))[i]? = some (.own (.lst ds)) := by rw [List.getElem?_set_ne (Ne.symm hij)]; exact hd
              have ne : q ≠ q2 := fun z => sim1.apart i j q _ _ hij ho hd (by rw [ho2, z]) hd2
              refine ⟨q, ys, v, rfl, rfl, by rw [upd_ne ne]; exact hqa, by rw [ra.length, sizeLine_eq]; exact hz.1, p2 _ _ _ (simw.write ho hdw ⟨_, rfl, ra.append (.cons hv2 .nil)⟩)⟩
            · exact p2.elim
      | _ => exact p1.elim
/-- x += e, x -= e: of numbers -/
theorem dS_aug {op : Operator} {bop : BOp} {tip : TIp} (hN : X.N.Nodup) (hi : X.N[i]? = some x) (hx : Loc X.env.scope x) (he : PE X e (tK c E .bor f)) (ho : PIp X op tip) (hf : X.fn x = true ∨ X.env.scope.names.lookup x = some .local)
    (hop : ∀ (a b : Int) (Q : V → Hp → Prop) (H : Hp), (∀ r, bop.run (.int a) (.int b) = some (.int r) → Q (.int r) H) → (bop = .add ∨ bop = .sub) → tip (.int a) (.int b) H Q) :
    PS X (.AugAssign (.Name x p2) op e pos) (tS c E κ (fAug i bop f)) :=
  (ps_aug hN hi hx he ho hf).imp fun D σ H ⟨He, Fe, F, ρ, s, sim, p⟩ => by
    obtain ⟨a, hd, p⟩ := aug_inv p
    · obtain ⟨o, ho, ok⟩ := slot_at sim.sim hd
      obtain ⟨w, rfl, rw'⟩ := ok
      cases rw'
      refine ⟨.int a, ho, F, ρ, s, sim.sim, (PostS.bnd (κ' := .bor) p sim.next).mono fun v H1 ⟨vd, s1, F1, n1, r1, p1⟩ => ?_⟩
      cases vd with
      | int b =>
        cases bor_int r1
        have fin : ∀ r : Int, PostS c E κ He Fe D (M.ret (.nx (ρ.set i (.val (.int r)))) s1) → D.nx (σ.set i (some (.int r))) H1 := fun r h => h _ _ _ (sim.put (b := false) n1 (show RepK c .val H F1 H1 (.int r) (.int r) from Rep.int r) i)
        cases bop with
        | add => exact hop a b _ H1 (fun r hr => fin r (by cases hr; exact p1)) (.inl rfl)
        | sub => exact hop a b _ H1 (fun r hr => fin r (by cases hr; exact p1)) (.inr rfl)
        | _ => exact p1.elim
      | _ => cases bop <;> exact p1.elim
theorem dS_augAdd (hN : X.N.Nodup) (hi : X.N[i]? = some x) (hx : Loc X.env.scope x) (he : PE X e (tK c E .bor f)) (hf : X.fn x = true ∨ X.env.scope.names.lookup x = some .local) : PS X (.AugAssign (.Name x p2) .Add e pos) (tS c E κ (fAug i .add f)) :=
  dS_aug hN hi hx he ip_add hf fun a b Q H h _ => ⟨a, b, rfl, rfl, h _ rfl⟩
theorem dS_augSub (hN : X.N.Nodup) (hi : X.N[i]? = some x) (hx : Loc X.env.scope x) (he : PE X e (tK c E .bor f)) (hf : X.fn x = true ∨ X.env.scope.names.lookup x = some .local) : PS X (.AugAssign (.Name x p2) .Sub e pos) (tS c E κ (fAug i .sub f)) :=
  dS_aug hN hi hx he ip_sub hf fun a b Q H h _ => ⟨a, b, rfl, rfl, h _ rfl⟩
end
end Mn

/-! Mn13: while without a bound; three names given at once. -/
namespace Mn
open PySem PySem.Spec PyProof.Rows L2

section
variable {X : Cx} {c : Cfg} {E : XK} {κ : Kd} {as : List (Bool × EvF)} {pos : Pos} {g : StF}
theorem PS.ex {st : Stmt} {α : Type} {t : α → TS} (h : ∀ n, PS X st (t n)) : PS X st (fun D σ H => ∃ n, t n D σ H) := ⟨fun pins s σ H D I ⟨n, q⟩ => (h n).run pins s σ H D I q⟩
theorem fWhile_eq {fc : EvF} {ρ : Env} {s : DS} (h : fWhile fc g ρ s ≠ .bad) : ∃ n, fWhile fc g ρ s = whileGo fc g n ρ s := by
  unfold fWhile at h ⊢
  by_cases q : ∃ n r, whileGo fc g n ρ s = r ∧ r ≠ .bad
  · rw [dif_pos q]
    exact ⟨_, rfl⟩
  · rw [dif_neg q] at h
    exact absurd rfl h
theorem dS_whileF {e3 : Expr} {body : List Stmt} {fc : EvF} (hp : PassesOwn (model X.prog X.w) X.A X.env X.xe) (hcc : PT X e3 (tT c E fc)) (hb : PSs X body (tS c E κ g)) :
    PS X (.While e3 body [] pos) (tS c E κ (fWhile fc g)) :=
  (PS.ex fun n => dS_while (n := n) hp hcc hb).imp fun D σ H ⟨He, Fe, F, ρ, s, sim, p⟩ => by
    have ne : fWhile fc g ρ s ≠ .bad := fun e => by rw [e] at p; exact p
    obtain ⟨n, e⟩ := fWhile_eq ne
    rw [e] at p
    exact ⟨n, He, Fe, F, ρ, s, sim, p⟩
/-- a loop by as many turns as it takes has one answer -/
theorem whileGo_more {fc : EvF} : ∀ {n : Nat} {ρ : Env} {s : DS}, whileGo fc g n ρ s ≠ .bad → ∀ k, whileGo fc g (n + k) ρ s = whileGo fc g n ρ s
  | 0, ρ, s, h, k => absurd rfl h
  | n + 1, ρ, s, h, k => by
    have e : n + 1 + k = (n + k) + 1 := by omega
    rw [e]
    rw [whileGo_succ] at h ⊢
    rw [whileGo_succ]
    cases e1 : fc ρ s with
    | bad => rw [bnd_bad e1, bnd_bad e1]
    | err a b c => rw [bnd_err e1, bnd_err e1]
    | ok d s1 =>
      rw [bnd_ok e1] at h ⊢
      rw [bnd_ok e1]
      cases d with
      | bl b =>
        cases b with
        | false => rfl
        | true =>
          have h : ((g ρ).bnd fun fl => match fl with
            | .nx ρ2 => whileGo fc g n ρ2
            | .ct ρ2 => whileGo fc g n ρ2
            | .bk ρ2 => M.ret (.nx ρ2)
            | .rt d => M.ret (.rt d)) s1 ≠ .bad := h
          show ((g ρ).bnd fun fl => match fl with
            | .nx ρ2 => whileGo fc g (n + k) ρ2
            | .ct ρ2 => whileGo fc g (n + k) ρ2
            | .bk ρ2 => M.ret (.nx ρ2)
            | .rt d => M.ret (.rt d)) s1 = ((g ρ).bnd fun fl => match fl with
            | .nx ρ2 => whileGo fc g n ρ2
            | .ct ρ2 => whileGo fc g n ρ2
            | .bk ρ2 => M.ret (.nx ρ2)
            | .rt d => M.ret (.rt d)) s1
          cases e2 : g ρ s1 with
          | bad => rw [bnd_bad e2, bnd_bad e2]
          | err a b c => rw [bnd_err e2, bnd_err e2]
          | ok fl s2 =>
            rw [bnd_ok e2] at h ⊢
            rw [bnd_ok e2]
            cases fl with
            | nx ρ2 => exact whileGo_more h k
            | ct ρ2 => exact whileGo_more h k
            | bk ρ2 => rfl
            | rt d => rfl
      | _ => rfl
theorem fWhile_of {fc : EvF} {n : Nat} {ρ : Env} {s : DS} {r : Res Fl} (h : whileGo fc g n ρ s = r) (hr : r ≠ .bad) : fWhile fc g ρ s = r := by
  have q : ∃ n r, whileGo fc g n ρ s = r ∧ r ≠ .bad := ⟨n, r, h, hr⟩
  have e : fWhile fc g ρ s = whileGo fc g (Classical.choose q) ρ s := by
    unfold fWhile
    rw [dif_pos q]
  obtain ⟨r2, e2, h2⟩ := Classical.choose_spec q
  rw [e]
  have n2 : whileGo fc g (Classical.choose q) ρ s ≠ .bad := by rw [e2]; exact h2
  have n1 : whileGo fc g n ρ s ≠ .bad := by rw [h]; exact hr
  rcases Nat.le_total n (Classical.choose q) with hle | hle
  · obtain ⟨k, hk⟩ := Nat.exists_eq_add_of_le hle
    rw [hk, whileGo_more n1 k, h]
  · obtain ⟨k, hk⟩ := Nat.exists_eq_add_of_le hle
    rw [← whileGo_more n2 k, ← hk, h]
/-- stored from the right (three plain local names) -/
def tPar3 (i j k : Nat) (ta : TA) : TS := fun D σ H => ta σ H fun vs H1 => ∃ v w z, vs = [v, w, z] ∧ D.nx (((σ.set i (some v)).set j (some w)).set k (some z)) H1
theorem ps_par3 {i j k : Nat} {x y z : Str} {a b d : Expr} {ta : TA} {px py pz pt : Pos} {kt k2 pt2} (hc : X.calm = true) (hN : X.N.Nodup) (hi : X.N[i]? = some x) (hj : X.N[j]? = some y) (hk : X.N[k]? = some z) (hij : i ≠ j) (hik : i ≠ k) (hjk : j ≠ k)
    (hx : X.env.scope.names.lookup x = some .local) (hy : X.env.scope.names.lookup y = some .local) (hz : X.env.scope.names.lookup z = some .local) (ha : PA X [a, b, d] ta)
    (hw : swappedStores [.Tuple [.Name x px, .Name y py, .Name z pz] kt pt] (.Tuple [a, b, d] k2 pt2) X.env = pure (some [x, y, z]))
    (hs : swapsWithSole [.Tuple [.Name x px, .Name y py, .Name z pz] kt pt] (.Tuple [a, b, d] k2 pt2) pos.line X.env = pure false) :
    PS X (.Assign [.Tuple [.Name x px, .Name y py, .Name z pz] kt pt] (.Tuple [a, b, d] k2 pt2) pos) (tPar3 i j k ta) := by
  refine ⟨fun pins s σ H D I h => ?_⟩
  rw [exec_Assign_arm]
  refine wpAny_bind (wpAny_standAt ?_)
  rw [hs]
  refine wpAny_bind (wpAny_pure ?_)
  rw [if_neg (by decide)]
  refine wpAny_bind (Tuple_ (thn (ha.run _ pins s σ H _ I h) fun us s1 ⟨vs, H1, I1, r1, q1⟩ => ?_))
  obtain ⟨v, w, u, e1, q1⟩ := q1
  subst e1
  obtain ⟨u1, u2, u3, rfl, rv, rw', ru⟩ : ∃ u1 u2 u3, us = [u1, u2, u3] ∧ RelV v u1 ∧ RelV w u2 ∧ RelV u u3 := by
    cases r1 with
    | cons p q =>
      cases q with
      | cons p' q' =>
        cases q' with
        | cons p'' q'' =>
          cases q''
          exact ⟨_, _, _, rfl, p, p', p''⟩
  refine wpAny_newObj_type ?_ (by show 3 ≤ sizeLine; decide)
  have I2 : Inv X pins σ H1 { s1 with heap := s1.heap.push { cls := .type "tuple", data := .seq [u1, u2, u3].toArray } } := I1.kept (t' := s1.toks) fun b o e => Heap.get?_push_of_some _ e
  rw [hw]
  refine wpAny_bind (wpAny_pure ?_)
  show wpAny (model X.prog X.w) X.A (do rule "assign.swapped-stores"; let items ← unpackItems (.ref s1.heap.objs.size) 3 none; assignInOrder [fun v => bindName X.env z v, fun v => bindName X.env y v, fun v => bindName X.env x v] items.reverse; pure Flow.next) _ _ _
  refine wpAny_bind (wpAny_rule (wpAny_bind (unpackItems_tuple (items := #[u1, u2, u3]) (I.ok.hd hc) (IsTup.new s1.heap _) fun h' hx' => ?_)))
  have I3 := I2.kept (h' := h') (t' := s1.toks) fun b o e => hx' b o (Nat.ne_of_lt (Heap.lt_size e)) e
  show wpAny _ _ (assignInOrder [fun v => bindName X.env z v, fun v => bindName X.env y v, fun v => bindName X.env x v] [u3, u2, u1] >>= fun _ => pure Flow.next) _ _ _
  refine wpAny_bind (assignInOrder_cons (wpAny_bindName (store_ok I3 hN hk (.inl hz) ru (fun s2 I4 => ?_) (.inr hz))))
  refine assignInOrder_cons (wpAny_bindName (store_ok I4 hN hj (.inl hy) rw' (fun s2 I4 => ?_) (.inr hy)))
  refine assignInOrder_cons (wpAny_bindName (store_ok I4 hN hi (.inl hx) rv (fun s3 I5 => assignInOrder_nil (wpAny_pure ?_)) (.inr hx)))
  rw [List.set_comm _ _ (Ne.symm hjk), List.set_comm _ _ (Ne.symm hik), List.set_comm _ _ (Ne.symm hij)] at I5
  exact ⟨_, H1, I5, q1⟩
theorem dS_par3 {i j k : Nat} {x y z : Str} {a b d : Expr} {px py pz pt : Pos} {kt k2 pt2} (hc : X.calm = true) (hN : X.N.Nodup) (hi : X.N[i]? = some x) (hj : X.N[j]? = some y) (hk : X.N[k]? = some z) (hij : i ≠ j) (hik : i ≠ k) (hjk : j ≠ k)
    (hx : X.env.scope.names.lookup x = some .local) (hy : X.env.scope.names.lookup y = some .local) (hz : X.env.scope.names.lookup z = some .local) (ha : PA X [a, b, d] (tP c E as))
    (hw : swappedStores [.Tuple [.Name x px, .Name y py, .Name z pz] kt pt] (.Tuple [a, b, d] k2 pt2) X.env = pure (some [x, y, z]))
    (hs : swapsWithSole [.Tuple [.Name x px, .Name y py, .Name z pz] kt pt] (.Tuple [a, b, d] k2 pt2) pos.line X.env = pure false) :
    PS X (.Assign [.Tuple [.Name x px, .Name y py, .Name z pz] kt pt] (.Tuple [a, b, d] k2 pt2) pos) (tS c E κ (fPar [i, j, k] as)) :=
  (ps_par3 hc hN hi hj hk hij hik hjk hx hy hz ha hw hs).imp fun D σ H h => by
    have q := tP_of h
    obtain ⟨He, Fe, F, ρ, s, pend, psl, sim, hl, p⟩ := q
    refine ⟨He, Fe, F, ρ, s, pend, psl, sim, hl, ?_⟩
    cases e : evsP as ρ s with
    | bad => rw [e] at p; exact p
    | err k ds s1 => rw [e] at p; exact p
    | ok sls s1 =>
      rw [e] at p
      intro vs H' F' y hv
      obtain ⟨h1, h2, He, Fe, F, ρ, s, sls, sim, hl, h3, h4, q⟩ := p vs H' F' y hv
      have hz : vs.length = 3 := by rw [h1, ← h2]; rfl
      match vs, hz with
      | [v, w, u], _ => exact ⟨v, w, u, rfl, q _ _ _ (sim.storeAll hl h3 h4)⟩
end
end Mn

/-! Mn14: the draws: the dict that the law draws from. -/
namespace Mn
open PySem PySem.Spec PyProof.Rows L2

def M.of {α : Type} (f : DS → Res α) : M α := f
inductive DKey where | rest | turn | cells | large
def DKey.str : DKey → Str
  | .rest => "rest" | .turn => "turn" | .cells => "cells" | .large => "large"
def isDrw (ρ : Env) (i : Nat) : Bool := match ρ[i]? with
  | some (.val .drw) => true
  | _ => false
def eDr (i : Nat) (k : DKey) : EvF := fun ρ => if isDrw ρ i = true then M.of fun s => (match k with
    | .rest => .ok (.int s.rest) s
    | .turn => .ok (.int s.turn) s
    | .cells => .ok (.lst (s.cells.map .int)) s
    | .large => .bad) else bad
def fDrSet (i : Nat) (k : DKey) (f : EvF) : StF := fun ρ => if isDrw ρ i = true then (f ρ).bnd fun d => match k, d with
    | .rest, .int n => M.of fun s => .ok (.nx ρ) { s with rest := n }
    | .turn, .int n => M.of fun s => .ok (.nx ρ) { s with turn := n }
    | _, _ => bad
  else bad
/-- draw['large'].pop(0) -/
def eDrPop (i : Nat) : EvF := fun ρ => if isDrw ρ i = true then M.of fun s => (match s.large with
    | a :: r => .ok (.int a) { s with large := r }
    | [] => .bad) else bad
/-- draw['large'] != [] -/
def eDrMore (i : Nat) : EvF := fun ρ => if isDrw ρ i = true then M.of fun s => .ok (.bl (!PyData.eqv (.list (s.large.map .int)) (.list []))) s else bad
section
variable {c : Cfg} {H F : Hp} {s s' : DS} {σ : L2.St} {ρ : Env} {i : Nat}
theorem drw_at (sim : Sim c σ H F ρ s) (h : isDrw ρ i = true) : ∃ d l e, c.dr = some (d, l, e) ∧ σ[i]? = some (some (.ref d)) ∧ H d = some (.dK [(.inr "large", .ref l), (.inr "rest", .int s.rest), (.inr "cells", .ref e), (.inr "turn", .int s.turn)]) ∧ H l = some (.lst (s.large.map V.int)) ∧ F e = some (.lst (s.cells.map V.int)) := by
  unfold isDrw at h
  split at h
  · rename_i hr
    obtain ⟨o, ho, v, rfl, r⟩ := slot_at sim hr
    cases r with
    | drw hd =>
      have a := sim.wf.dr
      have b := sim.wf.cel
      unfold DrawOk at a
      unfold CellOk at b
      rw [hd] at a b
      exact ⟨_, _, _, hd, ho, a.1, a.2, b⟩
  · cases h
/-- the draws' objects turn -/
theorem Next.drawn {H' : Hp} (w : Wf c H F s) (hk : ∀ a o, H a = some o → ¬ isDr c a → H' a = some o) (hd : DrawOk c H' s') (hc : CellOk c F s') : Next c H F H' F s' :=
  ⟨⟨fun a o h => hk a o (w.sub a o h) (fun z => by rw [w.drF a z] at h; cases h), hd, w.drF, hc⟩, Same.refl _, hk, fun _ _ h => .inl h⟩
theorem ints_dp {K : PySem.W.Frag} {H : Hp} : ∀ ns : List Int, DpAll K H (ns.map V.int) (ns.map PyData.int)
  | [] => .nil
  | n :: r => .cons (.int n) (ints_dp r)
theorem ints_lay : ∀ ns : List Int, PyData.canLayAll0 (ns.map PyData.int) = true
  | [] => by simp [PyData.canLayAll0]
  | n :: r => by simp [PyData.canLayAll0, PyData.canLay0, ints_lay r]
theorem ints_depth : ∀ ns : List Int, PyData.depthAll (ns.map PyData.int) ≤ 1
  | [] => by simp [PyData.depthAll]
  | n :: r => by simp only [List.map_cons, PyData.depthAll, PyData.depth]; have := ints_depth r; omega
theorem ints_shaped (ns : List Int) : SeqAt.shaped (.list (ns.map PyData.int)) = true := by
  show (PyData.canLay0 _ && decide _) = true
  rw [Bool.and_eq_true]
  refine ⟨by simpa [PyData.canLay0] using ints_lay ns, decide_eq_true ?_⟩
  simp only [PyData.depth]
  have := ints_depth ns
  omega
theorem reps_ints (ns : List Int) : Reps c F (ns.map V.int) (ns.map D.int) := Reps.ofInts ns
end
section
variable {X : Cx} {c : Cfg} {E : XK} {κ : Kd} {e : Expr} {f : EvF} {pos p2 p3 p4 apos cpos : Pos} {x : Str} {i j0 : Nat}
abbrev drKvs (s : DS) (l e : Addr) : List (Key × V) := [(.inr "large", .ref l), (.inr "rest", .int s.rest), (.inr "cells", .ref e), (.inr "turn", .int s.turn)]
theorem drv_large (s : DS) (l e : Addr) : valV (drKvs s l e) (.inr "large") = some (.ref l) := rfl
theorem drv_rest (s : DS) (l e : Addr) : valV (drKvs s l e) (.inr "rest") = some (.int s.rest) := rfl
theorem drv_cells (s : DS) (l e : Addr) : valV (drKvs s l e) (.inr "cells") = some (.ref e) := rfl
theorem drv_turn (s : DS) (l e : Addr) : valV (drKvs s l e) (.inr "turn") = some (.int s.turn) := rfl
theorem drp_rest (s : DS) (l e : Addr) (n : Int) : putK (drKvs s l e) (.inr "rest") (.int n) = drKvs { s with rest := n } l e := rfl
theorem drp_turn (s : DS) (l e : Addr) (n : Int) : putK (drKvs s l e) (.inr "turn") (.int n) = drKvs { s with turn := n } l e := rfl
theorem de_dr (k : DKey) (hu : X.A.units + 65 < cLine) (hN : X.N[i]? = some x) (hv : Vis X.env.scope x) (hd : (x == ("__debug__" : Str)) = false) (hcd : (x == ("__classdict__" : Str)) = false) (hs : NoSl (.Constant (.str k.str) j0 p3)) :
    PE X (.Subscript (.Name x p2) (.Constant (.str k.str) j0 p3) pos) (tK c E .val (eDr i k)) :=
  (pe_dget (by omega) (pe_var hN hv hd hcd) pe_str hs).imp fun σ H Q ⟨F, ρ, s, sim, p⟩ => by
    simp only [eDr] at p
    by_cases hi : isDrw ρ i = true
    · rw [if_pos hi] at p
      obtain ⟨d, l, e, hc, ho, h1, h2, h3⟩ := drw_at sim hi
      cases k with
      | rest => exact ⟨_, ho, d, .int s.rest, rfl, by have := DGet.k (k := .inr "rest") h1; rw [drv_rest] at this; exact this, p _ H F (Next.refl sim.wf) (.int _)⟩
      | turn => exact ⟨_, ho, d, .int s.turn, rfl, by have := DGet.k (k := .inr "turn") h1; rw [drv_turn] at this; exact this, p _ H F (Next.refl sim.wf) (.int _)⟩
      | cells => exact ⟨_, ho, d, .ref e, rfl, by have := DGet.k (k := .inr "cells") h1; rw [drv_cells] at this; exact this, p _ H F (Next.refl sim.wf) (.lst h3 (reps_ints _))⟩
      | large => exact p.elim
    · rw [if_neg hi] at p
      exact p.elim
theorem dS_drSet (k : DKey) (hu : X.A.units + 65 < cLine) (hN : X.N[i]? = some x) (hv : Vis X.env.scope x) (hd : (x == ("__debug__" : Str)) = false) (hcd : (x == ("__classdict__" : Str)) = false) (he : PE X e (tK c E .val f)) (hs : swapsWith e (some (.Subscript (.Name x p2) (.Constant (.str k.str) j0 p3) p4)) pos.line X.env = pure false) :
    PS X (.Assign [.Subscript (.Name x p2) (.Constant (.str k.str) j0 p3) p4] e pos) (tS c E κ (fDrSet i k f)) :=
  (ps_dput (by omega) (pe_var hN hv hd hcd) pe_str he hs).imp fun D σ H ⟨He, Fe, F, ρ, s, sim, p⟩ => by
    simp only [fDrSet] at p
    by_cases hi : isDrw ρ i = true
    · rw [if_pos hi] at p
      refine ⟨F, ρ, s, sim.sim, (PostS.bnd (κ' := .val) p sim.next).mono fun v H1 ⟨vd, s1, F1, n1, r1, p1⟩ => ?_⟩
      have sim1 := sim.on n1
      obtain ⟨d, l, e, hc, ho, h1, h2, h3⟩ := drw_at sim1.sim hi
      have nd : ∀ {a : Addr}, ¬ isDr c a → a ≠ d := fun {a} h z => h (by unfold isDr; rw [hc]; exact .inl z)
      have ne : l ≠ d := fun z => by rw [z, h1] at h2; cases h2
      have fin : ∀ (s2 : DS), s2.large = s1.large → s2.cells = s1.cells → (∀ σ' H' F', SimS c He Fe σ' H' F' ρ s2 → D.nx σ' H') → D.nx σ (upd H1 d (.dK (drKvs s2 l e))) := fun s2 el ec q => by
        have n : Next c H1 F1 (upd H1 d (.dK (drKvs s2 l e))) F1 s2 := Next.drawn sim1.next.wf (fun a o h z => by rw [upd_ne (nd z)]; exact h) (by
          unfold DrawOk; rw [hc]; exact ⟨upd_same, by rw [upd_ne ne, el]; exact h2⟩) (by
          unfold CellOk; rw [hc, ec]; exact h3)
        exact q _ _ _ (sim1.on n)
      have r1 : Rep c F1 v vd := r1
      have hlen : (drKvs s1 l e).length < sizeLine := by rw [sizeLine_eq]; show 4 < 16777216; decide
      cases k with
      | rest =>
        cases vd with
        | int n =>
          cases r1
          exact ⟨_, ho, d, _, rfl, DPut.k (k := .inr "rest") h1 hlen, by rw [drp_rest]; exact fin { s1 with rest := n } rfl rfl p1⟩
        | _ => exact p1.elim
      | turn =>
        cases vd with
        | int n =>
          cases r1
          exact ⟨_, ho, d, _, rfl, DPut.k (k := .inr "turn") h1 hlen, by rw [drp_turn]; exact fin { s1 with turn := n } rfl rfl p1⟩
        | _ => exact p1.elim
      | _ => cases vd <;> exact p1.elim
    · rw [if_neg hi] at p
      exact p.elim
theorem de_drPop (hu : X.A.units + 65 < cLine) {pc : Pos} {k0 : Nat} (hN : X.N[i]? = some x) (hv : Vis X.env.scope x) (hd : (x == ("__debug__" : Str)) = false) (hcd : (x == ("__classdict__" : Str)) = false) (hs : NoSl (.Constant (.str "large") j0 p3))
    (hbase : attributeBase (.Subscript (.Name x p2) (.Constant (.str "large") j0 p3) p4) "pop" X.env (eval (.Subscript (.Name x p2) (.Constant (.str "large") j0 p3) p4) X.env) = eval (.Subscript (.Name x p2) (.Constant (.str "large") j0 p3) p4) X.env)
    (hfew : ((backTo cpos (starEach [.Constant (.int 0) k0 pc] X.env)).all (fun x => !x.1) && (backToKw cpos (keywordEach [] X.env)).all (fun x => x.1.isSome) && decide (([.Constant (.int 0) k0 pc] : List Expr).length + ([] : List Keyword).length + (if ([] : List Keyword).isEmpty then 0 else 1) < 30)) = true)
    (hline : (apos.endLine == cpos.line) = true) (hst : starEach [.Constant (.int 0) k0 pc] X.env = (false, eval (.Constant (.int 0) k0 pc) X.env) :: starEach [] X.env) (hplain : (backTo cpos (starEach [] X.env)).any (·.1) = false) :
    PE X (.Call (.Attribute (.Subscript (.Name x p2) (.Constant (.str "large") j0 p3) p4) "pop" apos) [.Constant (.int 0) k0 pc] [] cpos) (tK c E .val (eDrPop i)) :=
  (pe_bm PySem.F.plainAttrs_list PySem.F.slot_list_pop PySem.F.type_list_pop mt_popAt (pe_dget (by omega) (pe_var hN hv hd hcd) pe_str hs) (pa_cons pe_int pa_nil hst) hbase hfew hline hst hplain).imp fun σ H Q ⟨F, ρ, s, sim, p⟩ => by
    simp only [eDrPop] at p
    by_cases hi : isDrw ρ i = true
    · rw [if_pos hi] at p
      obtain ⟨d, l, e, hc, ho, h1, h2, h3⟩ := drw_at sim hi
      dsimp only [M.of] at p
      cases hl : s.large with
      | nil => rw [hl] at p; exact p.elim
      | cons a r =>
        rw [hl] at p
        rw [hl] at h2
        refine ⟨_, ho, d, .ref l, rfl, by have := DGet.k (k := .inr "large") h1; rw [drv_large] at this; exact this, tyV_lst h2, l, _, 0, 0, .int a, rfl, rfl, h2, by decide, by decide, by (unfold seqIndex?; simp), rfl, ?_⟩
        have nl : ∀ {a : Addr}, ¬ isDr c a → a ≠ l := fun {a} h z => h (by unfold isDr; rw [hc]; exact .inr z)
        have ne : d ≠ l := fun z => by rw [z, h2] at h1; cases h1
        refine p (.int a) _ F (Next.drawn (s' := { s with large := r }) sim.wf (fun a o h z => by rw [upd_ne (nl z)]; exact h) (by
          unfold DrawOk; rw [hc]; exact ⟨by rw [upd_ne ne]; exact h1, upd_same⟩) (by
          unfold CellOk; rw [hc]; exact h3)) (.int a)
    · rw [if_neg hi] at p
      exact p.elim
theorem dt_drMore {pl pcmp : Pos} (hK : X.K = c.K) (hu : X.A.units + 65 < cLine) (hN : X.N[i]? = some x) (hv : Vis X.env.scope x) (hd : (x == ("__debug__" : Str)) = false) (hcd : (x == ("__classdict__" : Str)) = false) (hs : NoSl (.Constant (.str "large") j0 p3)) :
    PT X (.Compare (.Subscript (.Name x p2) (.Constant (.str "large") j0 p3) p4) [.NotEq] [.List [] pl] pcmp) (tT c E (eDrMore i)) :=
  (pt_cmpR (op_neD (by omega)) (pe_dget (by omega) (pe_var hN hv hd hcd) pe_str hs) (pe_lst pa_nil) (nomark _)).imp fun σ H Q ⟨F, ρ, s, sim, p⟩ => by
    simp only [eDrMore] at p
    by_cases hi : isDrw ρ i = true
    · rw [if_pos hi] at p
      obtain ⟨d, l, e, hc, ho, h1, h2, h3⟩ := drw_at sim hi
      obtain ⟨b, eb, q⟩ := p
      cases eb
      refine ⟨_, ho, d, .ref l, rfl, by have := DGet.k (k := .inr "large") h1; rw [drv_large] at this; exact this, by rw [sizeLine_eq]; decide, fun pp hp => ?_⟩
      have n := Next.laid (o := .lst []) sim.wf hp
      have ne : l ≠ pp := ne_of_none h2 hp
      exact ⟨.list (s.large.map .int), .list [], .lst (SqL.of (by rw [upd_ne ne]; exact h2)) (ints_dp _), .lst (SqL.of upd_same) .nil, ints_shaped _, by decide +kernel, _, rfl, q _ F n⟩
    · rw [if_neg hi] at p
      exact p.elim
end
end Mn

/-! Mn15: sorted, list(range(..)), tuple(range(..)). -/
namespace Mn
open PySem PySem.Spec PyProof.Rows L2
open PySem.W (sortingHeap sorting_copy_old copyHeap alike AllAlike Sortable SortsAt EachIs dataKind dataLe dataKind_some dataKind_inv)

/-! ### list(range(..)) -/
def rgD (lo hi : Int) : Option (List D) := if -(2 ^ 62) ≤ lo ∧ lo < 2 ^ 62 ∧ -(2 ^ 62) ≤ hi ∧ hi < 2 ^ 62 ∧ (hi - lo).toNat ≤ line then some (rangeD lo hi) else none
def toI : D → Option Int
  | .int i => some i
  | _ => none
def eRg1 (mk : List D → D) (fa : EvF) : EvF := fun ρ => (fa ρ).bnd fun x => lift ((toI x).bind fun n => (rgD 0 n).map mk)
def eRg2 (mk : List D → D) (fa fb : EvF) : EvF := fun ρ => (fa ρ).bnd fun x => (fb ρ).bnd fun y => lift ((toI x).bind fun m => (toI y).bind fun n => (rgD m n).map mk)
section
variable {X : Cx} {c : Cfg} {E : XK} {κ : Kd} {a b : Expr} {fa fb : EvF} {p p2 pos q : Pos} {F H : Hp} {s : DS}
theorem rgD_some {lo hi : Int} {ds : List D} (h : rgD lo hi = some ds) : ds = rangeD lo hi ∧ RgOk lo hi := by
  unfold rgD at h
  split at h <;> cases h
  rename_i hh
  exact ⟨rfl, hh.1, hh.2.1, hh.2.2.1, hh.2.2.2.1, hh.2.2.2.2⟩
theorem reps_rg (lo hi : Int) : Reps c F (rgV lo hi) (rangeD lo hi) := by
  unfold rgV rangeD
  generalize List.range (hi - lo).toNat = l
  induction l with
  | nil => exact .nil
  | cons n r ih => exact .cons (.int _) ih
theorem toI_some {d : D} {i : Int} (h : toI d = some i) : d = .int i := by
  cases d <;> simp [toI] at h
  rw [h]
theorem de_listRg1 (hc : X.calm = true) (hg : Gl X "list") (hm : X.mg "list" = none) (hg2 : Gl X "range") (hm2 : X.mg "range" = none) (ha : PE X a (tK c E .bor fa)) (na : starEach [a] X.env = (false, eval a X.env) :: starEach [] X.env)
    (na2 : starEach [.Call (.Name "range" p2) [a] [] q] X.env = (false, eval (.Call (.Name "range" p2) [a] [] q) X.env) :: starEach [] X.env) : PE X (.Call (.Name "list" p) [.Call (.Name "range" p2) [a] [] q] [] pos) (tK c E .own (eRg1 .lst fa)) :=
  (pe_listRg hc hg hm (prg_1 hg2 hm2 ha na) na2).imp fun σ H Q ⟨F, ρ, s, sim, p⟩ => ⟨F, ρ, s, sim, (Post.bnd (κ' := .bor) p).mono fun x H1 ⟨d1, s1, F1, n1, r1, p1⟩ => by
    obtain ⟨d, ed, k⟩ := p1.end
    obtain ⟨n, e1, ed⟩ := Option.bind_eq_some_iff.mp ed
    cases toI_some e1
    cases bor_int r1
    obtain ⟨ds, e2, rfl⟩ := Option.map_eq_some_iff.mp ed
    obtain ⟨rfl, ok⟩ := rgD_some e2
    exact ⟨n, rfl, ok, fun q hq => Cont.lst k n1.wf (reps_rg 0 n) hq⟩⟩
theorem de_listRg2 (hc : X.calm = true) (hg : Gl X "list") (hm : X.mg "list" = none) (hg2 : Gl X "range") (hm2 : X.mg "range" = none) (ha : PE X a (tK c E .bor fa)) (hb : PE X b (tK c E .bor fb)) (na : starEach [a, b] X.env = (false, eval a X.env) :: starEach [b] X.env) (nb : starEach [b] X.env = (false, eval b X.env) :: starEach [] X.env) (hp : (backTo q (starEach [b] X.env)).any (·.1) = false)
    (na2 : starEach [.Call (.Name "range" p2) [a, b] [] q] X.env = (false, eval (.Call (.Name "range" p2) [a, b] [] q) X.env) :: starEach [] X.env) : PE X (.Call (.Name "list" p) [.Call (.Name "range" p2) [a, b] [] q] [] pos) (tK c E .own (eRg2 .lst fa fb)) :=
  (pe_listRg hc hg hm (prg_2 hg2 hm2 ha hb na nb hp) na2).imp fun σ H Q ⟨F, ρ, s, sim, p⟩ => ⟨F, ρ, s, sim, (Post.bnd (κ' := .bor) p).mono fun x H1 ⟨d1, s1, F1, n1, r1, p1⟩ => ⟨F1, ρ, s1, sim.next n1, (Post.bnd (κ' := .bor) p1).mono fun y H2 ⟨d2, s2, F2, n2, r2, p2⟩ => by
    obtain ⟨d, ed, k⟩ := p2.end
    obtain ⟨m, e1, ed⟩ := Option.bind_eq_some_iff.mp ed
    obtain ⟨n, e1', ed⟩ := Option.bind_eq_some_iff.mp ed
    cases toI_some e1
    cases toI_some e1'
    cases bor_int r1
    cases bor_int r2
    obtain ⟨ds, e2, rfl⟩ := Option.map_eq_some_iff.mp ed
    obtain ⟨rfl, ok⟩ := rgD_some e2
    exact ⟨m, n, rfl, rfl, ok, fun q hq => Cont.lst k n2.wf (reps_rg m n) hq⟩⟩⟩
theorem de_tupRg1 (hc : X.calm = true) (hg : Gl X "tuple") (hm : X.mg "tuple" = none) (hg2 : Gl X "range") (hm2 : X.mg "range" = none) (ha : PE X a (tK c E .bor fa)) (na : starEach [a] X.env = (false, eval a X.env) :: starEach [] X.env)
    (na2 : starEach [.Call (.Name "range" p2) [a] [] q] X.env = (false, eval (.Call (.Name "range" p2) [a] [] q) X.env) :: starEach [] X.env) : PE X (.Call (.Name "tuple" p) [.Call (.Name "range" p2) [a] [] q] [] pos) (tK c E κ (eRg1 .tup fa)) :=
  (pe_tupRg hc hg hm (prg_1 hg2 hm2 ha na) na2).imp fun σ H Q ⟨F, ρ, s, sim, p⟩ => ⟨F, ρ, s, sim, (Post.bnd (κ' := .bor) p).mono fun x H1 ⟨d1, s1, F1, n1, r1, p1⟩ => by
    obtain ⟨d, ed, k⟩ := p1.end
    obtain ⟨n, e1, ed⟩ := Option.bind_eq_some_iff.mp ed
    cases toI_some e1
    cases bor_int r1
    obtain ⟨ds, e2, rfl⟩ := Option.map_eq_some_iff.mp ed
    obtain ⟨rfl, ok⟩ := rgD_some e2
    exact ⟨n, rfl, ok, fun q hq => Cont.tup k n1.wf (reps_rg 0 n) hq⟩⟩
theorem de_tupRg2 (hc : X.calm = true) (hg : Gl X "tuple") (hm : X.mg "tuple" = none) (hg2 : Gl X "range") (hm2 : X.mg "range" = none) (ha : PE X a (tK c E .bor fa)) (hb : PE X b (tK c E .bor fb)) (na : starEach [a, b] X.env = (false, eval a X.env) :: starEach [b] X.env) (nb : starEach [b] X.env = (false, eval b X.env) :: starEach [] X.env) (hp : (backTo q (starEach [b] X.env)).any (·.1) = false)
    (na2 : starEach [.Call (.Name "range" p2) [a, b] [] q] X.env = (false, eval (.Call (.Name "range" p2) [a, b] [] q) X.env) :: starEach [] X.env) : PE X (.Call (.Name "tuple" p) [.Call (.Name "range" p2) [a, b] [] q] [] pos) (tK c E κ (eRg2 .tup fa fb)) :=
  (pe_tupRg hc hg hm (prg_2 hg2 hm2 ha hb na nb hp) na2).imp fun σ H Q ⟨F, ρ, s, sim, p⟩ => ⟨F, ρ, s, sim, (Post.bnd (κ' := .bor) p).mono fun x H1 ⟨d1, s1, F1, n1, r1, p1⟩ => ⟨F1, ρ, s1, sim.next n1, (Post.bnd (κ' := .bor) p1).mono fun y H2 ⟨d2, s2, F2, n2, r2, p2⟩ => by
    obtain ⟨d, ed, k⟩ := p2.end
    obtain ⟨m, e1, ed⟩ := Option.bind_eq_some_iff.mp ed
    obtain ⟨n, e1', ed⟩ := Option.bind_eq_some_iff.mp ed
    cases toI_some e1
    cases toI_some e1'
    cases bor_int r1
    cases bor_int r2
    obtain ⟨ds, e2, rfl⟩ := Option.map_eq_some_iff.mp ed
    obtain ⟨rfl, ok⟩ := rgD_some e2
    exact ⟨m, n, rfl, rfl, ok, fun q hq => Cont.tup k n2.wf (reps_rg m n) hq⟩⟩⟩
end

/-! ### sorted -/
def encD (d : D) : PyData := (pyOf d).getD .none
def isNonP : PyData → Bool
  | .none => true
  | _ => false
def tupNE : PyData → Bool
  | .tuple (_ :: _) => true
  | _ => false
def plainP : PyData → Bool
  | .none => false
  | .tuple _ => false
  | _ => true
def sortOk (ds : List D) : Bool := ds.all (fun d => (pyOf d).isSome) && ds.all (fun d => ds.all fun e => alike (encD d) (encD e)) &&
  ((decide (ds.length ≤ 1) && ds.all fun d => !isNonP (encD d)) || ds.all (fun d => tupNE (encD d)) || ds.all fun d => plainP (encD d)) && decide (ds.length ≤ line)
def leD : D → D → Bool := dataLe false encD
def sortD : D → Option D
  | .lst ds => if sortOk ds = true then some (.lst (ds.mergeSort leD)) else none
  | _ => none
section
variable {prog : Program} {w : World} {A : Around} {E : Value → Shared → Prop} {s : Shared} {β : Type}
/-- one value alone is sorted -/
theorem sorts_one {vs : List Value} {ds : List PyData} (h1 : vs.length ≤ 1) (e : EachIs (fun v d => ∃ as, Reads s.heap v d as) vs ds) (hal : AllAlike ds) (hn : ∀ d ∈ ds, d ≠ .none) (hu : ∀ d, d ∈ ds → A.units + d.depth < cLine) : SortsAt prog w A s (dataKind s.heap ds) vs := by
  refine ⟨fun v hv => ?_, general', ?_, fun h2 => absurd h2 (by omega)⟩
  · obtain ⟨d, hd, as, r⟩ := e.left v hv
    exact ⟨_, dataKind_some hal hd r⟩
  · intro E x y a b Q ha hb hq
    obtain ⟨d, as, hd, ra, rfl⟩ := dataKind_inv ha
    obtain ⟨d', as', hd', rb, rfl⟩ := dataKind_inv hb
    have room : A.units + min d.depth d'.depth < cLine := Nat.lt_of_le_of_lt (Nat.add_le_add_left (Nat.min_le_left _ _) _) (hu d hd)
    exact PySem.W.oneLt_alike (f := false) (fun z => by cases z) ra rb (hal d hd d' hd') (hn d hd) room hq
theorem sorted_dataS {vs : List Value} {bs : List β} {enc : β → PyData} {R : Value → β → Prop} {l : Addr} {Q : Value → Shared → Prop} (hl : s.heap.IsList l vs.toArray) (e : EachIs R vs bs) (er : EachIs (fun v b => ∃ as, Reads s.heap v (enc b) as) vs bs) (hal : AllAlike (bs.map enc))
    (hk : (bs.length ≤ 1 ∧ ∀ b ∈ bs, enc b ≠ .none) ∨ Sortable (bs.map enc)) (hL : bs.length ≤ sizeLine)
    (hu : ∀ b, b ∈ bs → A.units + 2 + (enc b).depth < cLine) (h : ∀ out, out.length = bs.length → EachIs R out (bs.mergeSort (dataLe false enc)) → Q (.ref (s.heap.objs.size + 1)) { s with heap := sortedAll s.heap vs (List.toArray out) }) :
    wpAny (model prog w) A (call (.builtin "sorted") [.ref l]) Q E s := by
  have er' : EachIs (fun v b => ∃ as, Reads (sortingHeap (copyHeap s.heap vs) (s.heap.objs.size + 1) vs) v (enc b) as) vs bs := er.mono fun _ _ ⟨as, r⟩ => ⟨as, PyProof.Rows.Reads.keeps (fun _ _ => sorting_copy_old) r⟩
  have em := PySem.W.each_map (R := fun v d => ∃ as, Reads (sortingHeap (copyHeap s.heap vs) (s.heap.objs.size + 1) vs) v d as) enc er'
  have hS : SortsAt prog w A.in1.in1 { s with heap := sortingHeap (copyHeap s.heap vs) (s.heap.objs.size + 1) vs } (dataKind (sortingHeap (copyHeap s.heap vs) (s.heap.objs.size + 1) vs) (bs.map enc)) vs := by
    rcases hk with ⟨h1, hn⟩ | hk
    · refine sorts_one (s := { s with heap := sortingHeap (copyHeap s.heap vs) (s.heap.objs.size + 1) vs }) (by rw [e.length]; exact h1) em hal (fun d hd => ?_) (PySem.W.bound_map hu)
      obtain ⟨b, hb, rfl⟩ := List.mem_map.mp hd
      exact hn b hb
    · exact SortsAt.data (s := { s with heap := sortingHeap (copyHeap s.heap vs) (s.heap.objs.size + 1) vs }) em hal hk (PySem.W.bound_map hu)
  exact PySem.W.sorted_vals hl hS (by rw [e.length]; exact hL)
    (h _ (by rw [PySem.W.sortVals_length false rfl]; exact e.length) (PySem.W.sortVals_data false e er' hal))
end
theorem reads_of {X : Cx} {c : Cfg} {pins : List (Addr × Obj)} {σ : L2.St} {H F : Hp} {s : Shared} (I : Inv X pins σ H s) (hK : X.K = c.K) (w : Same F H) : ∀ {xs : List V} {us : List Value} {ds : List D}, Vals xs us → Reps c F xs ds → (∀ d ∈ ds, (pyOf d).isSome = true) →
    EachIs (fun (u : Value) (d : D) => ∃ v, RelV v u ∧ Rep c F v d) us ds ∧ EachIs (fun u d => ∃ as, Reads s.heap u (encD d) as) us ds
  | _, _, _, .nil, .nil, _ => ⟨.nil, .nil⟩
  | _, _, _, .cons r t, .cons rd td, h => by
    obtain ⟨h1, h2⟩ := reads_of I hK w t td fun d hd => h d (List.mem_cons_of_mem _ hd)
    refine ⟨.cons ⟨_, r, rd⟩ h1, .cons ?_ h2⟩
    have hp := h _ List.mem_cons_self
    obtain ⟨p, hp⟩ := Option.isSome_iff_exists.mp hp
    have hq := hp
    unfold pyOf at hq
    split at hq
    · rename_i p' hp'
      split at hq <;> cases hq
      unfold encD
      rw [hp]
      show ∃ as, Reads s.heap _ p as
      exact Dp.reads I p _ _ (dp_of hK w rd hp') r
    · cases hq
theorem vals_back {c : Cfg} {F : Hp} : ∀ {us : List Value} {ds : List D}, EachIs (fun (u : Value) (d : D) => ∃ v, RelV v u ∧ Rep c F v d) us ds → ∃ xs, Vals xs us ∧ Reps c F xs ds
  | _, _, .nil => ⟨[], .nil, .nil⟩
  | _, _, .cons ⟨v, r, rd⟩ t => by
    obtain ⟨xs, h1, h2⟩ := vals_back t
    exact ⟨v :: xs, .cons r h1, .cons rd h2⟩
theorem sortOk_inv {ds : List D} (h : sortOk ds = true) : (∀ d ∈ ds, (pyOf d).isSome = true) ∧ AllAlike (ds.map encD) ∧ ((ds.length ≤ 1 ∧ ∀ d ∈ ds, encD d ≠ .none) ∨ Sortable (ds.map encD)) ∧ ds.length ≤ line := by
  unfold sortOk at h
  simp only [Bool.and_eq_true, List.all_eq_true, Bool.or_eq_true, decide_eq_true_eq] at h
  obtain ⟨⟨⟨h1, h2⟩, h3⟩, h4⟩ := h
  refine ⟨h1, ?_, ?_, h4⟩
  · intro d hd d' hd'
    obtain ⟨a, ha, rfl⟩ := List.mem_map.mp hd
    obtain ⟨b, hb, rfl⟩ := List.mem_map.mp hd'
    exact h2 a ha b hb
  · rcases h3 with (⟨h3, h5⟩ | h3) | h3
    · exact .inl ⟨h3, fun d hd e => (by have := h5 d hd; rw [e] at this; cases this)⟩
    · refine .inr (.inl fun p hp => ?_)
      obtain ⟨a, ha, rfl⟩ := List.mem_map.mp hp
      have := h3 a ha
      cases hq : encD a with
      | tuple xs =>
        rw [hq] at this
        cases xs with
        | nil => cases this
        | cons x r => exact ⟨x, r, rfl⟩
      | _ => rw [hq] at this; cases this
    · refine .inr (.inr fun p hp => ?_)
      obtain ⟨a, ha, rfl⟩ := List.mem_map.mp hp
      have := h3 a ha
      exact ⟨fun e => (by rw [e] at this; cases this), fun xs e => (by rw [e] at this; cases this)⟩
theorem enc_depth (d : D) : (encD d).depth ≤ 60 := by
  unfold encD pyOf
  split
  · rename_i p hp
    split
    · assumption
    · simp [PyData.depth]
  · simp [PyData.depth]
theorem cB_sorted {X : Cx} {c : Cfg} (hK : X.K = c.K) (hu : X.A.units + 65 < cLine) : CallR X (.builtin "sorted") (rB c .own (one sortD)) := cB_one fun pins s σ H F ds0 x us Q d1 d I wf r r1 e q => by
  unfold sortD at e
  split at e
  · rename_i ds
    split at e <;> cases e
    rename_i hok
    obtain ⟨h1, h2, h3, h4⟩ := sortOk_inv hok
    obtain ⟨p, xs, rfl, hp, rx⟩ := bor_lst wf r1
    rw [Vals.ref1 r]
    obtain ⟨its, rv, pl, hz⟩ := I.list (SqL.of hp)
    obtain ⟨g1, g2⟩ := reads_of I hK wf.sub rv rx h1
    refine sorted_dataS (enc := encD) pl.isList g1 g2 h2 h3 (by rw [sizeLine_eq]; exact h4) (fun b hb => by have := enc_depth b; omega) fun out ho eo => ?_
    obtain ⟨ys, v1, v2⟩ := vals_back eo
    obtain ⟨k, hk⟩ := sortedAll_at s.heap its out.toArray
    refine ⟨.ref (s.heap.objs.size + 1), upd H (s.heap.objs.size + 1) (.lst ys), I.laid (t' := s.toks) (fun b u e => sortedAll_old e) (Nat.le_succ _) ⟨?_, out, k, v1, hk⟩, rfl, ?_⟩
    · rw [v1.length, ho, sizeLine_eq]; exact h4
    · exact q.lst wf v2 (I.hok.fresh (Nat.le_succ _))
  · cases e
end Mn

/-! Mn16: set(..) of a list of numbers, of a tuple of tuples: the two that the layer lacks. -/
namespace Mn
open PySem PySem.Spec PyProof.Rows L2

section
variable {P : Program} {w : World} {A : Around} {E : Value → Shared → Prop} {s : Shared}
/-- a set as it is born -/
abbrev newSet (w : World) : Obj := { cls := .type "set", dict := none, data := .set #[] 0 (.fresh 0 0 (!w.params.followText "set-order")) }
theorem gone_of {h : Heap} {b : Addr} (hb : h.objs.size ≤ b) : h.get? b = none := by
  cases q : h.get? b with
  | none => rfl
  | some o => exact absurd (Nat.lt_of_lt_of_le (Heap.lt_size q) hb) (Nat.lt_irrefl _)
theorem set_list_ints {l : Addr} {items : Array Value} (ns : List Int) {Q : Value → Shared → Prop} (hh : A.handled = none) (hl : s.heap.IsList l items) (hit : IntsAre items.toList ns) (hb : ns.length + 1 < scanBound)
    (h : ∀ (h' : Heap) (tk : Nat), (∃ c, SetR w h' s.heap.objs.size (fun j => decide (j ∈ ns)) c ∧ c ≤ ns.length) → (∀ b o, s.heap.get? b = some o → h'.get? b = some o) → Q (.ref s.heap.objs.size) { s with heap := h', toks := tk }) :
    wpAny (model P w) A (call (.type "set") [.ref l]) Q E s := by
  have hisz : items.size = ns.length := by
    have q := IntsAre.length hit
    rw [Array.length_toList] at q
    exact q
  let Z : Heap → Prop := fun h' => ∃ c, SetR w h' s.heap.objs.size (fun j => decide (j ∈ ns)) c ∧ c ≤ ns.length
  obtain ⟨c, tl, hmro⟩ := F.called_set.mro
  have hmade := F.called_set.made
  have hsub := F.called_set.sub
  refine wpAny_call (codeAny_of_tree ?_)
  show wpAny _ _ (callAny (.type "set") _) _ _ _
  refine wpAny_pure ⟨Code.quiet_builtin _ (by decide +kernel), codeAny_builtin F.entry_type_call ?_⟩
  rw [Around.under_plain (weight_type_call_type "set" [.ref l] []) rfl]
  have h1 := F.called_set.notType
  have h2 := F.called_set.canCreate
  have hct := F.typeCall_set_1 (.ref l)
  repeat (any_goals (first | assumption | wp_step))
  refine codeAny_mono (code_set_led1 (.ref l) (E := E) (Q₁ := fun obj s₁ => obj = .ref s.heap.objs.size ∧ s₁ = { s with heap := s.heap.push (newSet w) }) ⟨rfl, rfl⟩) fun r s₁ hr => ?_
  rcases r with er | fl
  · exact hr
  cases fl <;> try exact hr.elim
  obtain ⟨rfl, rfl⟩ := hr
  have hS : (s.heap.push (newSet w)).get? s.heap.objs.size = some (newSet w) := Heap.get?_push_size _ rfl
  have hT : Shared.TypeIs { s with heap := s.heap.push (newSet w) } (.ref s.heap.objs.size) "set" := ⟨_, hS, rfl⟩
  have hli := F.called_set.init.lookup
  have hbi := F.called_set.init.bind (.ref s.heap.objs.size)
  repeat (any_goals (first | assumption | wp_step))
  refine codeAny_mono (codeAny_call_builtin (R := wants (fun r s₂ => r = .none ∧ ∃ h' tk, s₂ = { s with heap := h', toks := tk } ∧ Z h' ∧ (∀ b o, s.heap.get? b = some o → h'.get? b = some o)) E) F.called_set.init.plain F.entry_set_init (check_set_init_1 hT ?_)) fun r₂ s₂ hr₂ => ?_
  rotate_left
  · rcases r₂ with er | fl₂
    · exact hr₂
    cases fl₂ <;> try exact hr₂.elim
    obtain ⟨rfl, h', tk, rfl, hZ, hk'⟩ := hr₂
    repeat (any_goals (first | assumption | wp_step))
    exact h _ _ hZ hk'
  obtain ⟨ol, hol, hcl, nl, hdl⟩ := hl
  obtain ⟨ocls, odict, odata, oslots⟩ := ol
  simp only at hcl hdl
  subst hcl; subst hdl
  have hol' : (s.heap.push (newSet w)).get? l = some { cls := .type "list", dict := odict, data := .seq items nl, slots := oslots } := Heap.get?_push_of_some _ hol
  have hsls := F.sub_list_set
  have hslf := F.sub_list_frozenset
  have hne : (Value.type "list" == Value.type "dict") = false := by decide
  have hl1 : Heap.IsList (s.heap.push (newSet w)) l items := ⟨_, hol', rfl, nl, rfl⟩
  unfold Builtin.«set.__init__» noKeywords Builtin.Frozenset.updateFrom
  generalize hPI : pyIter = PI
  wp_walk
  subst hPI
  refine wpAny_pyIter_list hl1 ?_
  refine wpAny_bind (wpAny_runValue ?_)
  have hlS : l < s.heap.objs.size := Heap.lt_size hol
  have hh3 : A.in1.in1.in1.handled = none := by simp [hh]
  have hneI : l ≠ (s.heap.push (newSet w)).objs.size := by
    rw [Heap.size_push]; exact Nat.ne_of_lt (Nat.lt_succ_of_lt hlS)
  have hSf : s.heap.objs.size ∉ [(s.heap.push (newSet w)).objs.size, l] := by
    rw [Heap.size_push]; simp only [List.mem_cons, List.mem_singleton, List.not_mem_nil, or_false, not_or]
    exact ⟨Nat.ne_of_lt (Nat.lt_succ_self _), Nat.ne_of_gt hlS⟩
  have kept : ∀ {s' : Shared} {G : Array GenState → Array GenState → Prop}, Moved [s.heap.objs.size, (s.heap.push (newSet w)).objs.size] G { s with heap := (s.heap.push (newSet w)).push { cls := .type ("list_iterator"), data := .fields #[.ref l, .int 0 0] } } s' → ∀ b o, s.heap.get? b = some o → s'.heap.get? b = some o := fun hm b o e => by
    have hb0 : b < s.heap.objs.size := Heap.lt_size e
    exact hm.heap b o (by
      simp only [List.mem_cons, List.mem_singleton, List.not_mem_nil, or_false, not_or]
      rw [Heap.size_push]
      exact ⟨Nat.ne_of_lt hb0, Nat.ne_of_lt (Nat.lt_succ_of_lt hb0)⟩) (Heap.get?_push_of_some _ (Heap.get?_push_of_some _ e))
  have hval : ∀ (i : Nat) (v : Value), items[i]? = some v → ∃ k t, ns[i]? = some k ∧ v = .int k t := fun i v hv => by
    have hi : i < ns.length := by rw [← hisz]; exact (Array.getElem?_eq_some_iff.mp hv).1
    obtain ⟨t, e⟩ := PyProof.Rows.IntsAre.int_at hit i v (by rw [Array.getElem?_toList]; exact hv)
    refine ⟨ns[i], t, List.getElem?_eq_getElem hi, ?_⟩
    rw [e, List.getD_eq_getElem?_getD, List.getElem?_eq_getElem hi] <;> rfl
  refine set_update_ints ((Walks.list hh3 _ l hneI items).toS) s.heap.objs.size hSf ns hisz hb hval (items.size - 0) 0 _ (by omega) (Nat.zero_le _)
    ⟨⟨_, Heap.get?_push_size _ rfl, rfl, rfl⟩, (hl1.push _)⟩ ⟨0, Nat.le_refl 0, setR_new_at (Heap.get?_push_of_some _ hS)⟩ fun s' c' hm hc' hS' => ?_
  have hk := kept hm
  obtain ⟨h', g2, d', tk', os'⟩ := s'
  have eg : g2 = s.gens := hm.gens
  have ed : d' = s.drawn := hm.drawn
  have eo : os' = s.os := hm.os
  subst eg; subst ed; subst eo
  show wpAny _ _ _ _ _ _
  refine wpAny_pure ?_
  show wpAny _ _ (ret Value.none) _ _ _
  rw [hisz] at hc'
  exact wpAny_pure ⟨rfl, h', tk', rfl, ⟨c', hS', hc'⟩, hk⟩
theorem set_tup_tups {l : Addr} {items : Array Value} (ks : List (Addr × List Int)) {Q : Value → Shared → Prop} (hh : A.handled = none) (hl : s.heap.IsTuple l items) (hit : items.toList = ks.map fun p => Value.ref p.1)
    (hk : ∀ p ∈ ks, IsT P w s.heap p.2 p.1) (hfew : ks.length < 64) (hu : A.units + 3 < cLine)
    (h : ∀ (h' : Heap) (tk : Nat), (∃ L es ep t, SetTR P w h' s.heap.objs.size L es ep t ∧ Got ks ks.length L) → (∀ b o, s.heap.get? b = some o → h'.get? b = some o) → Q (.ref s.heap.objs.size) { s with heap := h', toks := tk }) :
    wpAny (model P w) A (call (.type "set") [.ref l]) Q E s := by
  have hisz : items.size = ks.length := by
    have q := congrArg List.length hit
    rw [Array.length_toList, List.length_map] at q
    exact q
  let Z : Heap → Prop := fun h' => ∃ L es ep t, SetTR P w h' s.heap.objs.size L es ep t ∧ Got ks ks.length L
  obtain ⟨c, tl, hmro⟩ := F.called_set.mro
  have hmade := F.called_set.made
  have hsub := F.called_set.sub
  refine wpAny_call (codeAny_of_tree ?_)
  show wpAny _ _ (callAny (.type "set") _) _ _ _
  refine wpAny_pure ⟨Code.quiet_builtin _ (by decide +kernel), codeAny_builtin F.entry_type_call ?_⟩
  rw [Around.under_plain (weight_type_call_type "set" [.ref l] []) rfl]
  have h1 := F.called_set.notType
  have h2 := F.called_set.canCreate
  have hct := F.typeCall_set_1 (.ref l)
  repeat (any_goals (first | assumption | wp_step))
  refine codeAny_mono (code_set_led1 (.ref l) (E := E) (Q₁ := fun obj s₁ => obj = .ref s.heap.objs.size ∧ s₁ = { s with heap := s.heap.push (newSet w) }) ⟨rfl, rfl⟩) fun r s₁ hr => ?_
  rcases r with er | fl
  · exact hr
  cases fl <;> try exact hr.elim
  obtain ⟨rfl, rfl⟩ := hr
  have hS : (s.heap.push (newSet w)).get? s.heap.objs.size = some (newSet w) := Heap.get?_push_size _ rfl
  have hT : Shared.TypeIs { s with heap := s.heap.push (newSet w) } (.ref s.heap.objs.size) "set" := ⟨_, hS, rfl⟩
  have hli := F.called_set.init.lookup
  have hbi := F.called_set.init.bind (.ref s.heap.objs.size)
  repeat (any_goals (first | assumption | wp_step))
  refine codeAny_mono (codeAny_call_builtin (R := wants (fun r s₂ => r = .none ∧ ∃ h' tk, s₂ = { s with heap := h', toks := tk } ∧ Z h' ∧ (∀ b o, s.heap.get? b = some o → h'.get? b = some o)) E) F.called_set.init.plain F.entry_set_init (check_set_init_1 hT ?_)) fun r₂ s₂ hr₂ => ?_
  rotate_left
  · rcases r₂ with er | fl₂
    · exact hr₂
    cases fl₂ <;> try exact hr₂.elim
    obtain ⟨rfl, h', tk, rfl, hZ, hk'⟩ := hr₂
    repeat (any_goals (first | assumption | wp_step))
    exact h _ _ hZ hk'
  obtain ⟨ol, hol, hcl, nl, hdl⟩ := hl
  obtain ⟨ocls, odict, odata, oslots⟩ := ol
  simp only at hcl hdl
  subst hcl; subst hdl
  have hol' : (s.heap.push (newSet w)).get? l = some { cls := .type "tuple", dict := odict, data := .seq items nl, slots := oslots } := Heap.get?_push_of_some _ hol
  have hsls := F.sub_tuple_set
  have hslf := F.sub_tuple_frozenset
  have hne : (Value.type "tuple" == Value.type "dict") = false := by decide
  have hl1 : Heap.IsTuple (s.heap.push (newSet w)) l items := ⟨_, hol', rfl, nl, rfl⟩
  unfold Builtin.«set.__init__» noKeywords Builtin.Frozenset.updateFrom
  generalize hPI : pyIter = PI
  wp_walk
  subst hPI
  refine wpAny_pyIter_tuple hl1 ?_
  refine wpAny_bind (wpAny_runValue ?_)
  have hlS : l < s.heap.objs.size := Heap.lt_size hol
  have hh3 : A.in1.in1.in1.handled = none := by simp [hh]
  have hneI : l ≠ (s.heap.push (newSet w)).objs.size := by
    rw [Heap.size_push]; exact Nat.ne_of_lt (Nat.lt_succ_of_lt hlS)
  have hSf : s.heap.objs.size ∉ [(s.heap.push (newSet w)).objs.size, l] := by
    rw [Heap.size_push]; simp only [List.mem_cons, List.mem_singleton, List.not_mem_nil, or_false, not_or]
    exact ⟨Nat.ne_of_lt (Nat.lt_succ_self _), Nat.ne_of_gt hlS⟩
  have kept : ∀ {s' : Shared} {G : Array GenState → Array GenState → Prop}, Moved [s.heap.objs.size, (s.heap.push (newSet w)).objs.size] G { s with heap := (s.heap.push (newSet w)).push { cls := .type ("tuple_iterator"), data := .fields #[.ref l, .int 0 0] } } s' → ∀ b o, s.heap.get? b = some o → s'.heap.get? b = some o := fun hm b o e => by
    have hb0 : b < s.heap.objs.size := Heap.lt_size e
    exact hm.heap b o (by
      simp only [List.mem_cons, List.mem_singleton, List.not_mem_nil, or_false, not_or]
      rw [Heap.size_push]
      exact ⟨Nat.ne_of_lt hb0, Nat.ne_of_lt (Nat.lt_succ_of_lt hb0)⟩) (Heap.get?_push_of_some _ (Heap.get?_push_of_some _ e))
  have hval : ∀ (i : Nat) (v : Value), items[i]? = some v → ∃ p, ks[i]? = some p ∧ v = .ref p.1 := fun i v hv => by
    have q : items.toList[i]? = some v := by rw [Array.getElem?_toList]; exact hv
    rw [hit, List.getElem?_map] at q
    cases hq : ks[i]? with
    | none => rw [hq] at q; cases q
    | some p =>
      rw [hq] at q
      exact ⟨p, rfl, (Option.some.inj q).symm⟩
  refine set_update_tups ((Walks.tuple hh3 _ l hneI items).toS) s.heap.objs.size hSf ks hisz hfew hval s.heap hk (gone_of (Nat.le_refl _)) (fun b hb => gone_of (by
      rw [List.mem_singleton.mp hb, Heap.size_push]
      exact Nat.le_succ _)) hu (items.size - 0) 0 _ (by omega) (Nat.zero_le _)
    ⟨⟨_, Heap.get?_push_size _ rfl, rfl, rfl⟩, (hl1.push _)⟩ (fun b o e => Heap.get?_push_of_some _ (Heap.get?_push_of_some _ e)) ⟨[], #[], 0, _, setTR_fresh (Heap.get?_push_of_some _ hS), Got.zero ks⟩ fun s' L es ep t hm hS' g' hkp => ?_
  obtain ⟨h', g2, d', tk', os'⟩ := s'
  have eg : g2 = s.gens := hm.gens
  have ed : d' = s.drawn := hm.drawn
  have eo : os' = s.os := hm.os
  subst eg; subst ed; subst eo
  show wpAny _ _ _ _ _ _
  refine wpAny_pure ?_
  show wpAny _ _ (ret Value.none) _ _ _
  rw [hisz] at g'
  exact wpAny_pure ⟨rfl, h', tk', rfl, ⟨L, es, ep, t, hS', g'⟩, hkp⟩
end
end Mn

/-! Mn17: sorted(set(..)), len(set(..)). -/
namespace Mn
open PySem PySem.Spec PyProof.Rows L2
open PySem.W (sortingHeap sorting_copy_old copyHeap alike AllAlike Sortable SortsAt EachIs dataKind dataLe dataKind_some dataKind_inv)

def encP (p : Addr × List Int) : PyData := .tuple (p.2.map .int)
section
variable {P : Program} {w : World} {A : Around} {E : Value → Shared → Prop} {s : Shared}
theorem each_refs {h : Heap} {L : List (Addr × List Int)} (er : ∀ p ∈ L, ∃ as, Reads h (.ref p.1) (encP p) as) : ∀ {L1 : List (Addr × List Int)}, (∀ p ∈ L1, p ∈ L) → EachIs (fun u p => u = Value.ref p.1 ∧ p ∈ L) (L1.map fun p => Value.ref p.1) L1 ∧ EachIs (fun v b => ∃ as, Reads h v (encP b) as) (L1.map fun p => Value.ref p.1) L1
  | [], _ => ⟨.nil, .nil⟩
  | p :: r, hs => by
    obtain ⟨h1, h2⟩ := each_refs er (L1 := r) fun q hq => hs q (List.mem_cons_of_mem _ hq)
    exact ⟨.cons ⟨rfl, hs p List.mem_cons_self⟩ h1, .cons (er p (hs p List.mem_cons_self)) h2⟩
theorem refs_each {L : List (Addr × List Int)} : ∀ {out : List Value} {bs : List (Addr × List Int)}, EachIs (fun u p => u = Value.ref p.1 ∧ p ∈ L) out bs → out = bs.map fun p => Value.ref p.1
  | _, _, .nil => rfl
  | _, _, .cons h t => by rw [h.1, refs_each t]; rfl
theorem sorted_setD {a : Addr} {L : List (Addr × List Int)} {es : Array (Int × Value)} {ep : Nat} {t : SetTable} {Q : Value → Shared → Prop} (R : SetTR P w s.heap a L es ep t) (hh : A.handled = none)
    (er : ∀ p ∈ L, ∃ as, Reads s.heap (.ref p.1) (encP p) as) (hal : AllAlike (L.map encP)) (hk : L.length ≤ 1 ∨ Sortable (L.map encP)) (hu : ∀ p ∈ L, A.units + 2 + (encP p).depth < cLine)
    (hQ : ∀ s' p (out : Array Value) (c : Nat) (L1 : List (Addr × List Int)), (∀ b o, s.heap.get? b = some o → s'.heap.get? b = some o) → s'.gens = s.gens → s'.os = s.os → s.heap.objs.size ≤ p →
      s'.heap.get? p = some (seqObj "list" out c) → L1.Perm L → out.toList = (L1.mergeSort (dataLe false encP)).map (fun q => Value.ref q.1) → Q (.ref p) s') :
    wpAny (model P w) A (call (.builtin "sorted") [.ref a]) Q E s := by
  obtain ⟨o, ho, hex, hd⟩ := R.ob
  have hsz := R.size
  have hfew := R.few
  refine Calls.call_function_entry kind_sorted plain_sorted entry_sorted (args_sorted1 _) ?_
  unfold Builtin.«sorted»
  refine wpAny_bind (m := checkCount "sorted" 1 1 _) (wpAny_pure ?_)
  refine wpAny_bind (collect_set (A := A.in1) hh ⟨o, ho, hex.1, hd⟩ R.fits (by unfold scanBound; omega) R.tab.ris R.led fun s1 vs k1 hz g1 o1 pm => ?_)
  have hes : es.toList.map (·.2) = L.map fun q => Value.ref q.1 := by
    rw [R.rows]
    unfold rowsOf
    rw [List.map_map] <;> rfl
  rw [hes] at pm
  have ord : ∀ vs : List Value, (∀ v ∈ vs, ∃ q ∈ L, v = Value.ref q.1) → ∃ L1 : List (Addr × List Int), vs = L1.map (fun q => Value.ref q.1) ∧ ∀ q ∈ L1, q ∈ L := by
    intro vs
    induction vs with
    | nil => intro _; exact ⟨[], rfl, fun q hq => (by cases hq)⟩
    | cons v vs ih =>
      intro hv
      obtain ⟨q, hq, e⟩ := hv v List.mem_cons_self
      obtain ⟨L1, e1, hs⟩ := ih fun u hu => hv u (List.mem_cons_of_mem _ hu)
      refine ⟨q :: L1, by rw [List.map_cons, e, e1], fun r hr => ?_⟩
      rcases List.mem_cons.mp hr with z | z
      · rw [z]; exact hq
      · exact hs r z
  have one : ∀ q ∈ L, ∀ r ∈ L, q.1 = r.1 → q = r := fun q hq r hr e => by
    have a1 := R.tup q hq
    have a2 := R.tup r hr
    rw [e] at a1
    exact Prod.ext e (a1.inj a2)
  obtain ⟨L1, rfl, hs1⟩ := ord vs fun v hv => by
    obtain ⟨q, hq, e⟩ := List.mem_map.mp (pm.mem_iff.mp hv)
    exact ⟨q, hq, e.symm⟩
  have pL : L1.Perm L := by
    have nL : L.Nodup := nodup_of_map R.nd
    have nref : (L.map fun q => Value.ref q.1).Nodup := by
      refine List.pairwise_map.mpr (List.Pairwise.imp_of_mem (fun {q r} hq hr hne e => ?_) nL)
      injection e with e
      exact hne (one q hq r hr e)
    have n1 : L1.Nodup := nodup_of_map (pm.nodup_iff.mpr nref)
    refine (List.perm_ext_iff_of_nodup n1 nL).mpr fun q => ⟨hs1 q, fun hq => ?_⟩
    have hm : Value.ref q.1 ∈ L1.map (fun q => Value.ref q.1) := pm.mem_iff.mpr (List.mem_map.mpr ⟨q, hq, rfl⟩)
    obtain ⟨r, hr, e⟩ := List.mem_map.mp hm
    injection e with e
    rw [← one r (hs1 r hr) q hq e]
    exact hr
  have hvl : (L1.map fun q => Value.ref q.1).length < 64 := by rw [List.length_map, pL.length_eq]; exact hfew
  have hvz : (L1.map fun q => Value.ref q.1).length ≤ sizeLine := by rw [sizeLine_eq]; omega
  refine wpAny_bind (wpAny_newList ?_ hvz)
  have hoL : (s1.heap.push (seqObj "list" (L1.map fun q => Value.ref q.1).toArray 0)).get? s1.heap.objs.size = some (seqObj "list" (L1.map fun q => Value.ref q.1).toArray 0) := Heap.get?_push_size _ rfl
  have kp : ∀ b u, s.heap.get? b = some u → (sortingHeap (s1.heap.push (seqObj "list" (L1.map fun q => Value.ref q.1).toArray 0)) s1.heap.objs.size (L1.map fun q => Value.ref q.1)).get? b = some u := fun b u e => by
    have q := k1 b u e
    have hlt := Heap.lt_size q
    unfold PySem.W.sortingHeap
    refine Heap.get?_push_of_some _ (Heap.get?_push_of_some _ ?_)
    rw [Heap.get?_update_other _ _ (Nat.ne_of_gt hlt)]
    exact Heap.get?_push_of_some _ q
  have er2 : ∀ p ∈ L, ∃ as, Reads (sortingHeap (s1.heap.push (seqObj "list" (L1.map fun q => Value.ref q.1).toArray 0)) s1.heap.objs.size (L1.map fun q => Value.ref q.1)) (.ref p.1) (encP p) as := fun p hp => by
    obtain ⟨as, r⟩ := er p hp
    exact ⟨as, PyProof.Rows.Reads.keeps kp r⟩
  obtain ⟨g1', g2⟩ := each_refs er2 hs1
  have hal1 : AllAlike (L1.map encP) := fun d hd d' hd' => hal d ((pL.map encP).mem_iff.mp hd) d' ((pL.map encP).mem_iff.mp hd')
  have em := PySem.W.each_map (R := fun v d => ∃ as, Reads (sortingHeap (s1.heap.push (seqObj "list" (L1.map fun q => Value.ref q.1).toArray 0)) s1.heap.objs.size (L1.map fun q => Value.ref q.1)) v d as) encP g2
  have hu1 : ∀ b, b ∈ L1 → A.in1.in1.units + (encP b).depth < cLine := fun b hb => hu b (hs1 b hb)
  have hS : SortsAt P w A.in1.in1 { s1 with heap := sortingHeap (s1.heap.push (seqObj "list" (L1.map fun q => Value.ref q.1).toArray 0)) s1.heap.objs.size (L1.map fun q => Value.ref q.1) } (dataKind (sortingHeap (s1.heap.push (seqObj "list" (L1.map fun q => Value.ref q.1).toArray 0)) s1.heap.objs.size (L1.map fun q => Value.ref q.1)) (L1.map encP)) (L1.map fun q => Value.ref q.1) := by
    rcases hk with h1 | hk
    · refine sorts_one (s := { s1 with heap := sortingHeap (s1.heap.push (seqObj "list" (L1.map fun q => Value.ref q.1).toArray 0)) s1.heap.objs.size (L1.map fun q => Value.ref q.1) }) (by rw [List.length_map, pL.length_eq]; exact h1) em hal1 (fun d hd => ?_) (PySem.W.bound_map hu1)
      obtain ⟨b, hb, rfl⟩ := List.mem_map.mp hd
      exact fun z => by cases z
    · refine SortsAt.data (s := { s1 with heap := sortingHeap (s1.heap.push (seqObj "list" (L1.map fun q => Value.ref q.1).toArray 0)) s1.heap.objs.size (L1.map fun q => Value.ref q.1) }) em hal1 ?_ (PySem.W.bound_map hu1)
      rcases hk with hk | hk
      · exact .inl fun d hd => hk d ((pL.map encP).mem_iff.mp hd)
      · exact .inr fun d hd => hk d ((pL.map encP).mem_iff.mp hd)
  have vse := PySem.W.sortVals_data (h' := sortingHeap (s1.heap.push (seqObj "list" (L1.map fun q => Value.ref q.1).toArray 0)) s1.heap.objs.size (L1.map fun q => Value.ref q.1)) false g1' g2 hal1
  refine wpAny_bind (wpAny_holding (wpAny_call_entry slot_list_sort ⟨_, hoL, rfl⟩ entry_list_sort (PySem.W.list_sort_vals (s := { s1 with heap := s1.heap.push (seqObj "list" (L1.map fun q => Value.ref q.1).toArray 0) }) hoL hS hvz ⟨.none, rfl, ?_⟩) (args_list_sort _)))
  obtain ⟨c, hc⟩ := sortedHeap_at (vs := L1.map fun q => Value.ref q.1) (out := (PySem.W.sortVals (dataKind (sortingHeap (s1.heap.push (seqObj "list" (L1.map fun q => Value.ref q.1).toArray 0)) s1.heap.objs.size (L1.map fun q => Value.ref q.1)) (L1.map encP)) false (L1.map fun q => Value.ref q.1) (L1.map fun q => Value.ref q.1)).toArray) hoL
  refine wpAny_pure ⟨_, rfl, hQ _ s1.heap.objs.size _ c L1 (fun b u e => ?_) g1 o1 hz hc pL (refs_each vse)⟩
  have q := k1 b u e
  have hlt := Heap.lt_size q
  rw [sortedHeap_old (Nat.ne_of_lt hlt) (by rw [size_push']; exact Nat.lt_succ_of_lt hlt)]
  exact Heap.get?_push_of_some _ q
end
end Mn

/-! Mn18: sorted(set(..)), len(set(..)): the rules. -/
namespace Mn
open PySem PySem.Spec PyProof.Rows L2
open PySem.W (alike AllAlike Sortable dataLe dataLt_tuple dataLt_ints)

/-- each once -/
def dedup {α : Type} [DecidableEq α] : List α → List α
  | [] => []
  | a :: r => if a ∈ r then dedup r else a :: dedup r
theorem mem_dedup {α : Type} [DecidableEq α] {x : α} : ∀ {l : List α}, x ∈ dedup l ↔ x ∈ l
  | [] => Iff.rfl
  | a :: r => by
    unfold dedup
    have ih := mem_dedup (x := x) (l := r)
    split
    · rename_i h
      rw [ih, List.mem_cons]
      exact ⟨.inr, fun z => z.elim (fun e => e ▸ h) id⟩
    · rw [List.mem_cons, List.mem_cons, ih]
theorem nodup_dedup {α : Type} [DecidableEq α] : ∀ l : List α, (dedup l).Nodup
  | [] => List.nodup_nil
  | a :: r => by
    unfold dedup
    split
    · exact nodup_dedup r
    · rename_i h
      exact List.nodup_cons.mpr ⟨fun z => h (mem_dedup.mp z), nodup_dedup r⟩
theorem len_dedup {α : Type} [DecidableEq α] : ∀ l : List α, (dedup l).length ≤ l.length
  | [] => Nat.le_refl _
  | a :: r => by
    unfold dedup
    have := len_dedup r
    split <;> simp only [List.length_cons] <;> omega
def leI (a b : Int) : Bool := decide (a ≤ b)
def leK (a b : List Int) : Bool := decide (a ≤ b)
def tupKeys : List D → Option (List (List Int))
  | [] => some []
  | .tup ds :: r => match intsD ds, tupKeys r with
    | some k, some ks => some (k :: ks)
    | _, _ => none
  | _ :: _ => none
def setSortL (ds : List D) : Option (List D) := match intsD ds with
  | some ns => if ns.length < 64 then some (((dedup ns).mergeSort leI).map .int) else none
  | none => match tupKeys ds with
    | some ks => if ks.length < 64 ∧ ((∀ k ∈ ks, k ≠ []) ∨ ∀ k ∈ ks, k = []) then some (((dedup ks).mergeSort leK).map fun k => .tup (k.map .int)) else none
    | none => none
def setSort : D → Option D
  | .lst ds => (setSortL ds).map .lst
  | .tup ds => (setSortL ds).map .lst
  | _ => none
def setLen : D → Option D
  | .lst ds => (intsD ds).bind fun ns => if ns.length < 4000 then some (.int (dedup ns).length) else none
  | .tup ds => (intsD ds).bind fun ns => if ns.length < 4000 then some (.int (dedup ns).length) else none
  | _ => none
def eOne (g : D → Option D) (fa : EvF) : EvF := fun ρ => (fa ρ).bnd fun d => lift (g d)
theorem leK_eq : dataLe false encP = fun p q => leK p.2 q.2 := by
  funext p q
  show (!PySem.W.dataLt (.tuple (q.2.map .int)) (.tuple (p.2.map .int))) = _
  rw [dataLt_tuple]
  show (!PySem.W.rowLt (q.2.map .int) (p.2.map .int)) = _
  rw [dataLt_ints]
  unfold leK
  by_cases h : q.2 < p.2
  · have h' : ¬ p.2 ≤ q.2 := fun r => List.not_lt.mpr r h
    simp [h, h']
  · have h' : p.2 ≤ q.2 := List.not_lt.mp h
    simp [h, h']
theorem leK_trans (a b c : List Int) (h1 : leK a b = true) (h2 : leK b c = true) : leK a c = true := by
  unfold leK at *
  simp only [decide_eq_true_eq] at *
  exact List.le_trans h1 h2
theorem leK_total (a b : List Int) : (leK a b || leK b a) = true := by
  unfold leK
  rw [Bool.or_eq_true, decide_eq_true_eq, decide_eq_true_eq]
  exact List.le_total a b
theorem leI_trans (a b c : Int) (h1 : leI a b = true) (h2 : leI b c = true) : leI a c = true := by
  unfold leI at *
  simp only [decide_eq_true_eq] at *
  omega
theorem leI_total (a b : Int) : (leI a b || leI b a) = true := by
  unfold leI
  rw [Bool.or_eq_true, decide_eq_true_eq, decide_eq_true_eq]
  omega
/-- the keys of what comes out -/
theorem keys_sorted {L L1 : List (Addr × List Int)} {ks : List (List Int)} (pm : L1.Perm L) (nd : (L.map (·.2)).Nodup) (mem : ∀ k, k ∈ L.map (·.2) ↔ k ∈ ks) : (L1.mergeSort (dataLe false encP)).map (·.2) = (dedup ks).mergeSort leK := by
  have p1 : ((L1.mergeSort (dataLe false encP)).map (·.2)).Perm (L.map (·.2)) := (((List.mergeSort_perm L1 _).trans pm).map _)
  have p2 : (L.map (·.2)).Perm (dedup ks) := (List.perm_ext_iff_of_nodup nd (nodup_dedup ks)).mpr fun k => (mem k).trans mem_dedup.symm
  refine List.Perm.eq_of_pairwise (le := fun a b => leK a b = true) (fun a b _ _ h1 h2 => ?_) ?_ (List.pairwise_mergeSort leK_trans leK_total _) ((p1.trans p2).trans (List.mergeSort_perm _ _).symm)
  · unfold leK at h1 h2
    simp only [decide_eq_true_eq] at h1 h2
    exact List.le_antisymm h1 h2
  · rw [leK_eq]
    exact List.pairwise_map.mpr (List.pairwise_mergeSort (fun a b c => leK_trans a.2 b.2 c.2) (fun a b => leK_total a.2 b.2) L1)
theorem ints_sorted {ns out : List Int} (h1 : out.Pairwise (· < ·)) (h2 : ∀ k, k ∈ out ↔ k ∈ ns) : out = (dedup ns).mergeSort leI := by
  have nd : out.Nodup := h1.imp fun h e => by omega
  have p2 : out.Perm (dedup ns) := (List.perm_ext_iff_of_nodup nd (nodup_dedup ns)).mpr fun k => (h2 k).trans mem_dedup.symm
  refine List.Perm.eq_of_pairwise (le := fun a b => leI a b = true) (fun a b _ _ h1 h2 => ?_) ?_ (List.pairwise_mergeSort leI_trans leI_total _) (p2.trans (List.mergeSort_perm _ _).symm)
  · unfold leI at h1 h2
    simp only [decide_eq_true_eq] at h1 h2
    omega
  · exact h1.imp fun h => decide_eq_true (by omega)
theorem alike_keys (ks : List (Addr × List Int)) : AllAlike (ks.map encP) := by
  intro d hd d' hd'
  obtain ⟨a, _, rfl⟩ := List.mem_map.mp hd
  obtain ⟨b, _, rfl⟩ := List.mem_map.mp hd'
  show alike (.tuple _) (.tuple _) = true
  rw [alike]
  exact PySem.W.alike_ints _ _
section
variable {X : Cx} {c : Cfg} {E : XK} {κ : Kd} {a : Expr} {fa : EvF} {p p2 q pos : Pos} {pins : List (Addr × Obj)} {σ : L2.St} {H F : Hp} {s : Shared} {s0 : DS}
theorem tup_reps (w : Same F H) : ∀ {xs : List V} {ds : List D} {ks : List (List Int)}, Reps c F xs ds → tupKeys ds = some ks → ∃ L : List (Addr × List Int), xs = L.map (fun p => V.ref p.1) ∧ L.map (·.2) = ks ∧ ∀ p ∈ L, F p.1 = some (.tup (p.2.map V.int))
  | _, _, _, .nil, e => by simp only [tupKeys] at e; cases e; exact ⟨[], rfl, rfl, fun p hp => by cases hp⟩
  | _, _, _, .cons (d := d) h r, e => by
    cases d with
    | tup ds =>
      simp only [tupKeys] at e
      split at e
      · rename_i k ks h1 h2
        cases e
        obtain ⟨L, e1, e2, e3⟩ := tup_reps w r h2
        cases h with
        | tup ha hr =>
          have hx := hr.ints h1
          subst hx
          refine ⟨(_, k) :: L, by rw [e1]; rfl, by rw [← e2]; rfl, fun p hp => ?_⟩
          rcases List.mem_cons.mp hp with rfl | hp
          · exact ha
          · exact e3 p hp
      · cases e
    | _ => simp [tupKeys] at e
theorem reads_tup (I : Inv X pins σ H s) {a : Addr} {k : List Int} (h : H a = some (.tup (k.map V.int))) : ∃ as, Reads s.heap (.ref a) (encP (a, k)) as :=
  Dp.reads I _ (.ref a) (.ref a) (.tup (SqT.of h) (ints_dp k)) rfl
theorem depth_keys (p : Addr × List Int) : (encP p).depth ≤ 1 := by
  show PyData.depth (.tuple _) ≤ 1
  simp only [PyData.depth]
  have := PySem.W.depth_ints p.2
  omega
/-- what sorted gives of a set of tuples -/
theorem sort_set_fin {Q : VK} {L : List (Addr × List Int)} {es : Array (Int × Value)} {ep : Nat} {t : SetTable} {S : Addr} {ks0 : List (Addr × List Int)} {ks : List (List Int)} (hc : X.calm = true) (hu : X.A.units + 65 < cLine) (I : Inv X pins σ H s) (wf : Wf c H F s0) (R : SetTR X.prog X.w s.heap S L es ep t) (g : Got ks0 ks0.length L) (hk : ks0.map (·.2) = ks) (hF : ∀ p ∈ ks0, F p.1 = some (.tup (p.2.map V.int)))
    (hgood : (∀ k ∈ ks, k ≠ []) ∨ ∀ k ∈ ks, k = []) (q : Cont c .own H F s0 (.lst (((dedup ks).mergeSort leK).map fun k => .tup (k.map .int))) Q) : wpAny (model X.prog X.w) X.A (call (.builtin "sorted") [.ref S]) (EP X pins σ Q) X.xe s := by
  have sub : ∀ p ∈ L, p ∈ ks0 := fun p hp => List.mem_of_mem_take (g.sub p hp)
  have mem : ∀ k, k ∈ L.map (·.2) ↔ k ∈ ks := fun k => by
    constructor
    · intro h
      obtain ⟨p, hp, rfl⟩ := List.mem_map.mp h
      rw [← hk]
      exact List.mem_map.mpr ⟨p, sub p hp, rfl⟩
    · intro h
      rw [← hk] at h
      obtain ⟨p, hp, rfl⟩ := List.mem_map.mp h
      exact g.all p (by rw [List.take_length]; exact hp)
  refine sorted_setD R (I.ok.hd hc) (fun p hp => reads_tup I (wf.sub _ _ (hF p (sub p hp)))) (alike_keys L) ?_ (fun p _ => by have := depth_keys p; omega) fun s' p out cc L1 k gg oo hp hg pm ho => ?_
  · rcases hgood with h | h
    · refine .inr (.inl fun d hd => ?_)
      obtain ⟨p, hp, rfl⟩ := List.mem_map.mp hd
      have := h p.2 ((mem p.2).mp (List.mem_map.mpr ⟨p, hp, rfl⟩))
      cases e : p.2 with
      | nil => exact absurd e this
      | cons x r => exact ⟨.int x, r.map .int, by show PyData.tuple (p.2.map .int) = _; rw [e]; rfl⟩
    · refine .inl ?_
      have h1 : ∀ z ∈ L.map (·.2), z = [] := fun z hz => h z ((mem z).mp hz)
      have h2 := R.nd
      match L, h1, h2 with
      | [], _, _ => exact Nat.zero_le _
      | [_], _, _ => exact Nat.le_refl _
      | x :: y :: r, h1, h2 =>
        have e1 := h1 x.2 (by simp)
        have e2 := h1 y.2 (by simp)
        simp [e1, e2] at h2
  · have hkeys := keys_sorted pm R.nd mem
    have hlen : ((L1.mergeSort (dataLe false encP)).map fun q => V.ref q.1).length ≤ sizeLine := by
      rw [List.length_map, (List.mergeSort_perm L1 _).length_eq, pm.length_eq, sizeLine_eq]
      have := R.few
      omega
    have hv : Vals ((L1.mergeSort (dataLe false encP)).map fun q => V.ref q.1) out.toList := by rw [ho]; exact vals_of_refs _
    have hn : H p = none := I.hok.fresh hp
    have J : Inv X pins σ (upd H p (.lst ((L1.mergeSort (dataLe false encP)).map fun q => V.ref q.1))) { s with heap := s'.heap, gens := s'.gens, drawn := s'.drawn, toks := s'.toks } :=
      I.call (ch := []) (Un.laid k hp hn) (I.hok.laid k hp ⟨hlen, out.toList, cc, hv, hg⟩) (by rw [gg]; exact I.bare) (fun _ z => nomatch z)
    have e : s' = { s with heap := s'.heap, gens := s'.gens, drawn := s'.drawn, toks := s'.toks } := by
      cases s'
      cases s
      cases oo
      rfl
    rw [e]
    refine ⟨.ref p, _, J, rfl, Cont.lst q wf ?_ hn⟩
    rw [← hkeys]
    have key : ∀ L2 : List (Addr × List Int), (∀ p ∈ L2, p ∈ L) → Reps c F (L2.map fun q => V.ref q.1) ((L2.map (·.2)).map fun k => .tup (k.map .int)) := by
      intro L2
      induction L2 with
      | nil => intro _; exact .nil
      | cons z r ih =>
        intro hs
        exact .cons (.tup (hF z (sub z (hs z List.mem_cons_self))) (Reps.ofInts _)) (ih fun y hy => hs y (List.mem_cons_of_mem _ hy))
    exact key _ fun z hz => pm.mem_iff.mp (List.mem_mergeSort.mp hz)
/-- what sorted gives of a set of numbers -/
theorem sort_setI_fin {Q : VK} {S : Addr} {ns : List Int} {n : Nat} (hc : X.calm = true) (I : Inv X pins σ H s) (wf : Wf c H F s0) (R : SetR X.w s.heap S (fun j => decide (j ∈ ns)) n) (h64 : n < 64)
    (q : Cont c .own H F s0 (.lst (((dedup ns).mergeSort leI).map .int)) Q) : wpAny (model X.prog X.w) X.A (call (.builtin "sorted") [.ref S]) (EP X pins σ Q) X.xe s := by
  refine sorted_set R (I.ok.hd hc) h64 fun s' p out cc ns' k g o hp hg hi hs hm hl => ?_
  have hlen : (ns'.map V.int).length ≤ sizeLine := by rw [List.length_map, hl, sizeLine_eq]; omega
  have hn : H p = none := I.hok.fresh hp
  have J : Inv X pins σ (upd H p (.lst (ns'.map V.int))) { s with heap := s'.heap, gens := s'.gens, drawn := s'.drawn, toks := s'.toks } :=
    I.call (ch := []) (Un.laid k hp hn) (I.hok.laid k hp ⟨hlen, out.toList, cc, vals_of_ints hi, hg⟩) (by rw [g]; exact I.bare) (fun _ z => nomatch z)
  have e : s' = { s with heap := s'.heap, gens := s'.gens, drawn := s'.drawn, toks := s'.toks } := by
    cases s'
    cases s
    cases o
    rfl
  rw [e]
  refine ⟨.ref p, _, J, rfl, Cont.lst q wf ?_ hn⟩
  rw [← ints_sorted hs fun k => (hm k).trans (by simp)]
  exact Reps.ofInts _
end
end Mn

/-! Mn19: the rules of sorted(set(..)), len(set(..)). -/
namespace Mn
open PySem PySem.Spec PyProof.Rows L2

section
variable {X : Cx} {c : Cfg} {E : XK} {κ : Kd} {a : Expr} {fa : EvF} {p p2 q pos : Pos}
theorem boot_sorted' : bootBuiltins "sorted" = some (.builtin "sorted") := by decide +kernel
theorem boot_set' : bootBuiltins "set" = some (.type "set") := by decide +kernel
theorem boot_len' : bootBuiltins "len" = some (.builtin "len") := by decide +kernel
/-- a list or a tuple that is borrowed -/
theorem bor_seq {H F H0 : Hp} {s : DS} {v : V} {d : D} {ds : List D} (w : Wf c H F s) (r : RepK c .bor H0 F H v d) (h : d = .lst ds ∨ d = .tup ds) : ∃ p xs, v = .ref p ∧ Reps c F xs ds ∧ ((d = .lst ds ∧ H p = some (.lst xs)) ∨ (d = .tup ds ∧ H p = some (.tup xs))) := by
  rcases h with rfl | rfl
  · obtain ⟨p, xs, e, h1, h2⟩ := bor_lst w r
    exact ⟨p, xs, e, h2, .inl ⟨rfl, h1⟩⟩
  · obtain ⟨p, xs, e, h1, h2⟩ := bor_tup w r
    exact ⟨p, xs, e, h2, .inr ⟨rfl, h1⟩⟩
theorem de_sortSet (hc : X.calm = true) (hu : X.A.units + 65 < cLine) (hg : Gl X "sorted") (hm : X.mg "sorted" = none) (hg2 : Gl X "set") (hm2 : X.mg "set" = none) (ha : PE X a (tK c E .bor fa)) (na : starEach [a] X.env = (false, eval a X.env) :: starEach [] X.env)
    (na2 : starEach [.Call (.Name "set" p2) [a] [] q] X.env = (false, eval (.Call (.Name "set" p2) [a] [] q) X.env) :: starEach [] X.env) :
    PE X (.Call (.Name "sorted" p) [.Call (.Name "set" p2) [a] [] q] [] pos) (tK c E .own (eOne setSort fa)) := by
  refine ⟨fun pins s σ H Q I ⟨F, ρ, s0, sim, pst⟩ => ?_⟩
  refine Call_ (ld_blt I hg hm boot_sorted' ?_)
  refine PyProof.Rows.callWith_builtin1 (PyProof.Rows.args_cons ?_ na2) na2 rfl
  refine Call_ (ld_blt I hg2 hm2 boot_set' ?_)
  refine PyProof.Rows.callWith_type1 (PyProof.Rows.args_cons (thn (ha.run pins s σ H _ I ⟨F, ρ, s0, sim, Post.bnd (κ' := .bor) pst⟩) fun v s1 ⟨x, H1, I1, r1, d1, s2, F1, n1, rb, p1⟩ => PyProof.Rows.args_nil ?_) na) na rfl
  obtain ⟨d, ed, k⟩ := p1.end
  have hd : ∃ ds dd, (d1 = .lst ds ∨ d1 = .tup ds) ∧ setSortL ds = some dd ∧ d = .lst dd := by
    unfold setSort at ed
    split at ed
    · obtain ⟨dd, h1, h2⟩ := Option.map_eq_some_iff.mp ed
      exact ⟨_, dd, .inl rfl, h1, h2.symm⟩
    · obtain ⟨dd, h1, h2⟩ := Option.map_eq_some_iff.mp ed
      exact ⟨_, dd, .inr rfl, h1, h2.symm⟩
    · cases ed
  obtain ⟨ds, dd, hds, hs, rfl⟩ := hd
  obtain ⟨l, xs, rfl, rx, hl⟩ := bor_seq n1.wf rb hds
  cases r1
  unfold setSortL at hs
  split at hs
  · rename_i ns hns
    split at hs <;> cases hs
    rename_i h64
    have hx := rx.ints hns
    subst hx
    have fin : ∀ (h' : Heap) (tk c' : Nat), SetR X.w h' s1.heap.objs.size (fun j => decide (j ∈ ns)) c' → c' ≤ ns.length → (∀ b o, s1.heap.get? b = some o → h'.get? b = some o) →
        wpAny (model X.prog X.w) X.A (call (.builtin "sorted") [Value.ref s1.heap.objs.size]) (EP X pins σ Q) X.xe { s1 with heap := h', toks := tk } := fun h' tk c' R hc' hk => by
      have I2 : Inv X pins σ H1 { s1 with heap := h', toks := tk } := I1.kept hk
      exact sort_setI_fin hc I2 n1.wf R (by omega) k
    rcases hl with ⟨_, hl⟩ | ⟨_, hl⟩
    · obtain ⟨its, r, pl, hz⟩ := I1.list (SqL.of hl)
      have hi : IntsAre its.toArray.toList ns := by simpa using ints_of_vals r
      refine set_list_ints ns (I1.ok.hd hc) pl.isList hi (by unfold scanBound; omega) fun h' tk ⟨c', R, hc'⟩ hk => ?_
      exact PyProof.Rows.args_nil (fin h' tk c' R hc' hk)
    · obtain ⟨its, r, pl, hz⟩ := I1.tuple (SqT.of hl)
      have hi : IntsAre its.toArray.toList ns := by simpa using ints_of_vals r
      refine call_set_tupI ns (I1.ok.hd hc) pl hi (by unfold scanBound; omega) fun h' tk c' R hc' hk => ?_
      exact PyProof.Rows.args_nil (fin h' tk c' R hc' hk)
  · split at hs
    · rename_i ks hks
      split at hs <;> cases hs
      rename_i hh
      obtain ⟨L, rfl, e2, e3⟩ := tup_reps n1.wf.sub rx hks
      have hl2 : L.length = ks.length := by rw [← e2, List.length_map]
      have isT : ∀ p ∈ L, IsT X.prog X.w s1.heap p.2 p.1 := fun p hp => I1.isT (SqT.of (n1.wf.sub _ _ (e3 p hp)))
      have fin : ∀ (h' : Heap) (tk : Nat), (∃ L2 es ep t, SetTR X.prog X.w h' s1.heap.objs.size L2 es ep t ∧ Got L L.length L2) → (∀ b o, s1.heap.get? b = some o → h'.get? b = some o) →
          wpAny (model X.prog X.w) X.A (call (.builtin "sorted") [Value.ref s1.heap.objs.size]) (EP X pins σ Q) X.xe { s1 with heap := h', toks := tk } := fun h' tk ⟨L2, es, ep, t, R, g⟩ hk => by
        have I2 : Inv X pins σ H1 { s1 with heap := h', toks := tk } := I1.kept hk
        exact sort_set_fin hc hu I2 n1.wf R g e2 e3 hh.2 k
      rcases hl with ⟨_, hl⟩ | ⟨_, hl⟩
      · obtain ⟨its, r, pl, hz⟩ := I1.list (SqL.of hl)
        refine call_set_tups L (I1.ok.hd hc) pl.isList (by simpa using refs_of_vals r) isT (by omega) (by omega) fun h' tk L2 es ep t R g hk => ?_
        exact PyProof.Rows.args_nil (fin h' tk ⟨L2, es, ep, t, R, g⟩ hk)
      · obtain ⟨its, r, pl, hz⟩ := I1.tuple (SqT.of hl)
        refine set_tup_tups L (I1.ok.hd hc) pl (by simpa using refs_of_vals r) isT (by omega) (by omega) fun h' tk hh hk => ?_
        exact PyProof.Rows.args_nil (fin h' tk hh hk)
    · cases hs
theorem de_lenSet (hc : X.calm = true) (hg : Gl X "len") (hm : X.mg "len" = none) (hg2 : Gl X "set") (hm2 : X.mg "set" = none) (ha : PE X a (tK c E .bor fa)) (na : starEach [a] X.env = (false, eval a X.env) :: starEach [] X.env)
    (na2 : starEach [.Call (.Name "set" p2) [a] [] q] X.env = (false, eval (.Call (.Name "set" p2) [a] [] q) X.env) :: starEach [] X.env) :
    PE X (.Call (.Name "len" p) [.Call (.Name "set" p2) [a] [] q] [] pos) (tK c E κ (eOne setLen fa)) := by
  refine ⟨fun pins s σ H Q I ⟨F, ρ, s0, sim, pst⟩ => ?_⟩
  refine Call_ (ld_blt I hg hm boot_len' ?_)
  refine PyProof.Rows.callWith_builtin1 (PyProof.Rows.args_cons ?_ na2) na2 rfl
  refine Call_ (ld_blt I hg2 hm2 boot_set' ?_)
  refine PyProof.Rows.callWith_type1 (PyProof.Rows.args_cons (thn (ha.run pins s σ H _ I ⟨F, ρ, s0, sim, Post.bnd (κ' := .bor) pst⟩) fun v s1 ⟨x, H1, I1, r1, d1, s2, F1, n1, rb, p1⟩ => PyProof.Rows.args_nil ?_) na) na rfl
  obtain ⟨d, ed, k⟩ := p1.end
  have hd : ∃ ds ns, (d1 = .lst ds ∨ d1 = .tup ds) ∧ intsD ds = some ns ∧ ns.length < 4000 ∧ d = .int (dedup ns).length := by
    unfold setLen at ed
    split at ed
    · obtain ⟨ns, h1, h2⟩ := Option.bind_eq_some_iff.mp ed
      split at h2 <;> cases h2
      rename_i hz
      exact ⟨_, ns, .inl rfl, h1, hz, rfl⟩
    · obtain ⟨ns, h1, h2⟩ := Option.bind_eq_some_iff.mp ed
      split at h2 <;> cases h2
      rename_i hz
      exact ⟨_, ns, .inr rfl, h1, hz, rfl⟩
    · cases ed
  obtain ⟨ds, ns, hds, hns, hz, rfl⟩ := hd
  obtain ⟨l, xs, rfl, rx, hl⟩ := bor_seq n1.wf rb hds
  cases r1
  have hx := rx.ints hns
  subst hx
  have fin : ∀ (h' : Heap) (tk c' : Nat), SetR X.w h' s1.heap.objs.size (fun j => decide (j ∈ ns)) c' → c' ≤ ns.length → (∀ b o, s1.heap.get? b = some o → h'.get? b = some o) →
      wpAny (model X.prog X.w) X.A (call (.builtin "len") [Value.ref s1.heap.objs.size]) (EP X pins σ Q) X.xe { s1 with heap := h', toks := tk } := fun h' tk c' R hc' hk => by
    have I2 : Inv X pins σ H1 { s1 with heap := h', toks := tk } := I1.kept hk
    obtain ⟨o, es, ep, t, ho, hex, hd, g, nd, hm, hb, hf, hn, hr, hl⟩ := R
    have p1 : (es.toList.map keyOf).Perm (dedup ns) := (List.perm_ext_iff_of_nodup nd (nodup_dedup ns)).mpr fun k => by
      rw [mem_dedup, ← hm k]
      simp
    have e : es.size = (dedup ns).length := by
      have := p1.length_eq
      rw [List.length_map, Array.length_toList] at this
      exact this
    exact call_len_set ho hex hd hf (by rw [hn]; omega) ⟨.int (dedup ns).length, H1, I2.tok _, ⟨tk + 1, by rw [← e]⟩, Cont.same k n1.wf (.int _)⟩
  rcases hl with ⟨_, hl⟩ | ⟨_, hl⟩
  · obtain ⟨its, r, pl, hz2⟩ := I1.list (SqL.of hl)
    have hi : IntsAre its.toArray.toList ns := by simpa using ints_of_vals r
    refine set_list_ints ns (I1.ok.hd hc) pl.isList hi (by unfold scanBound; omega) fun h' tk ⟨c', R, hc'⟩ hk => ?_
    exact PyProof.Rows.args_nil (fin h' tk c' R hc' hk)
  · obtain ⟨its, r, pl, hz2⟩ := I1.tuple (SqT.of hl)
    have hi : IntsAre its.toArray.toList ns := by simpa using ints_of_vals r
    refine call_set_tupI ns (I1.ok.hd hc) pl hi (by unfold scanBound; omega) fun h' tk c' R hc' hk => ?_
    exact PyProof.Rows.args_nil (fin h' tk c' R hc' hk)
end
end Mn

/-! Mn20: dicts: {}, {k: v, ..}, dict(list of pairs). -/
namespace Mn
open PySem PySem.Spec PyProof.Rows L2

def mergeD {κ : Type} [DecidableEq κ] (kvs more : List (κ × D)) : List (κ × D) := more.foldl (fun acc p => putD acc p.1 p.2) kvs
def evsK : List (Key × EvF) → Env → M (List (Key × D))
  | [], _ => M.ret []
  | (k, f) :: r, ρ => (f ρ).bnd fun d => (evsK r ρ).bnd fun ds => M.ret ((k, d) :: ds)
def eDisp (as : List (Key × EvF)) : EvF := fun ρ => (evsK as ρ).bnd fun es => if es.length ≤ 15 then M.ret (.dK (mergeD [] es)) else bad
def pairsK : List D → Option (List (Key × D))
  | [] => some []
  | .tup [k, v] :: r => match keyD k, pairsK r with
    | some k, some ps => some ((k, v) :: ps)
    | _, _ => none
  | _ :: _ => none
def pairsT : List D → Option (List (List Key × D))
  | [] => some []
  | .tup [.tup ks, v] :: r => match keysD ks, pairsT r with
    | some k, some ps => some ((k, v) :: ps)
    | _, _ => none
  | _ :: _ => none
/-- dict(..) of a list of pairs whose keys are tuples; whose keys are numbers and texts -/
def dictTD : D → Option D
  | .lst ds => (pairsT ds).map fun ps => .dT (mergeD [] ps)
  | _ => none
def dictKD : D → Option D
  | .lst ds => (pairsK ds).map fun ps => .dK (mergeD [] ps)
  | _ => none
section
variable {X : Cx} {c : Cfg} {E : XK} {κ : Kd} {H F H' F' : Hp} {s s' : DS} {σ : L2.St} {pos : Pos}
theorem de_dNewK : PE X (.Dict [] [] pos) (tK c E .own (eC (.dK []))) := pe_dnewK.imp fun σ H Q ⟨F, ρ, s, sim, p⟩ => fun x hx =>
  p _ _ F (Next.laid sim.wf hx) (.inr ⟨x, rfl, hx, free_F sim.wf hx, sim.wf.notDr hx, [], upd_same, rfl, .nil⟩)
theorem de_dNewT : PE X (.Dict [] [] pos) (tK c E .own (eC (.dT []))) := pe_dnewT.imp fun σ H Q ⟨F, ρ, s, sim, p⟩ => fun x hx =>
  p _ _ F (Next.laid sim.wf hx) (.inr ⟨x, rfl, hx, free_F sim.wf hx, sim.wf.notDr hx, [], upd_same, rfl, .nil⟩)
theorem reps_merge {κ : Type} [DecidableEq κ] : ∀ {more : List (κ × V)} {rs : List (κ × D)} {kvs : List (κ × V)} {es : List (κ × D)}, more.map (·.1) = rs.map (·.1) → Reps c F (more.map (·.2)) (rs.map (·.2)) → kvs.map (·.1) = es.map (·.1) → Reps c F (kvs.map (·.2)) (es.map (·.2)) →
    (more.foldl (fun acc kv => putK acc kv.1 kv.2) kvs).map (·.1) = (mergeD es rs).map (·.1) ∧ Reps c F ((more.foldl (fun acc kv => putK acc kv.1 kv.2) kvs).map (·.2)) ((mergeD es rs).map (·.2))
  | [], [], _, _, _, _, h, r => ⟨h, r⟩
  | [], _ :: _, _, _, h, _, _, _ => by simp at h
  | _ :: _, [], _, _, h, _, _, _ => by simp at h
  | p :: t, q :: u, kvs, es, hm, hr, h, r => by
    simp only [List.map_cons, List.cons.injEq] at hm hr
    cases hr with
    | cons z zr =>
      obtain ⟨h1, h2⟩ := reps_putD p.1 z h r
      have e : q.1 = p.1 := hm.1.symm
      show ((t.foldl (fun acc kv => putK acc kv.1 kv.2) (putK kvs p.1 p.2)).map (·.1)) = ((mergeD (putD es q.1 q.2) u).map (·.1)) ∧ Reps c F ((t.foldl (fun acc kv => putK acc kv.1 kv.2) (putK kvs p.1 p.2)).map (·.2)) ((mergeD (putD es q.1 q.2) u).map (·.2))
      rw [e]
      exact reps_merge hm.2 zr h1 h2
def PostPr (c : Cfg) (E : XK) (H F : Hp) (Q : List (V × V) → Hp → Prop) : Res (List (Key × D)) → Prop
  | .ok es s' => ∀ (kvs : List (Key × V)) H' F', Next c H F H' F' s' → kvs.map (·.1) = es.map (·.1) → Reps c F' (kvs.map (·.2)) (es.map (·.2)) → Q (kvs.map fun kv => (kV kv.1, kv.2)) H'
  | .err k ds s' => ∀ cls dd H' F', Next c H F H' F' s' → ErrRep c F' cls dd k ds → E cls dd H'
  | .bad => False
theorem tPairs_of : ∀ {as : List (Key × EvF)} {H F : Hp} {ρ : Env} {s : DS} {Q : List (V × V) → Hp → Prop}, Sim c σ H F ρ s → PostPr c E H F Q (evsK as ρ s) → tPairs (as.map fun a => (tC (kV a.1), tK c E .val a.2)) σ H Q
  | [], H, F, ρ, s, Q, sim, p => p [] H F (Next.refl sim.wf) rfl .nil
  | (k, f) :: as, H, F, ρ, s, Q, sim, p => by
    refine ⟨F, ρ, s, sim, ?_⟩
    simp only [evsK] at p
    show Post c E .val H F _ (f ρ s)
    cases e : f ρ s with
    | bad => rw [bnd_bad e] at p; exact p
    | err a b d => rw [bnd_err e] at p; exact p
    | ok d s1 =>
      rw [bnd_ok e] at p
      intro v H1 F1 n1 r1
      have r1 : Rep c F1 v d := r1
      refine tPairs_of (sim.next n1) ?_
      cases e2 : evsK as ρ s1 with
      | bad => rw [bnd_bad e2] at p; exact p
      | err a b d => rw [bnd_err e2] at p; exact fun cls dd H' F' n r => p cls dd H' F' (n1.trans n) r
      | ok es s2 =>
        rw [bnd_ok e2] at p
        intro kvs H2 F2 n2 hk hr
        exact p ((k, v) :: kvs) H2 F2 (n1.trans n2) (by simp [hk]) (.cons (r1.mono n2.leF) hr)
theorem de_disp {keys : List (Option Expr)} {values : List Expr} {as : List (Key × EvF)} (h : PPs X pos keys values (as.map fun a => (tC (kV a.1), tK c E .val a.2))) (hall : keys.all (·.isSome) = true) (hl : keys.length = values.length) (h0 : keys ≠ []) (h15 : keys.length ≤ 15) :
    PE X (.Dict keys values pos) (tK c E .own (eDisp as)) := (pe_disp h hall hl h0 h15).imp fun σ H Q ⟨F, ρ, s, sim, p⟩ => fun x hx => by
  have n0 := Next.laid (o := .dK []) sim.wf hx
  have sim0 := sim.next n0
  have p : Post c E .own H F Q (((evsK as ρ).bnd fun es => if es.length ≤ 15 then M.ret (.dK (mergeD [] es)) else bad) s) := p
  refine tPairs_of sim0 ?_
  cases e : evsK as ρ s with
  | bad => rw [bnd_bad e] at p; exact p
  | err a b d => rw [bnd_err e] at p; exact fun cls dd H' F' n r => p cls dd H' F' (n0.trans n) r
  | ok es s1 =>
    rw [bnd_ok e] at p
    intro kvs H2 F2 n2 hk hr
    split at p
    · rename_i hz
      have hp2 := n2.keep x _ upd_same (sim.wf.notDr hx)
      have F2x := n2.none upd_same (free_F sim.wf hx)
      have hlen : kvs.length = es.length := by have := congrArg List.length hk; simpa using this
      obtain ⟨h1, h2⟩ := reps_merge (kvs := []) (es := []) hk hr rfl .nil
      have nw : Next c H F (upd H2 x (.dK (mergeK [] kvs))) F2 s1 := Next.write (n0.trans n2) hx F2x (sim.wf.notDr hx)
      exact ⟨hp2, kvs, rfl, by omega, p (.ref x) _ F2 nw (.inr ⟨x, rfl, hx, F2x, sim.wf.notDr hx, _, upd_same, h1, h2⟩)⟩
    · exact p.elim
/-- the pairs of a list, as the heap has them -/
theorem pairsT_reps (w : Same F H) : ∀ {xs : List V} {ds : List D} {ps : List (List Key × D)}, Reps c F xs ds → pairsT ds = some ps →
    ∃ L : List (Addr × List Key × Addr × V), xs = L.map (fun t => V.ref t.1) ∧ L.map (fun t => t.2.1) = ps.map (·.1) ∧ Reps c F (L.map fun t => t.2.2.2) (ps.map (·.2)) ∧ ∀ t ∈ L, F t.1 = some (.tup [.ref t.2.2.1, t.2.2.2]) ∧ F t.2.2.1 = some (.tup (t.2.1.map kV))
  | _, _, _, .nil, e => by simp only [pairsT] at e; cases e; exact ⟨[], rfl, rfl, .nil, fun t ht => by cases ht⟩
  | _, _, _, .cons (d := d) h r, e => by
    unfold pairsT at e
    split at e
    · cases ‹_ :: _ = []›
    · rename_i ks v rr he
      cases he
      split at e
      · rename_i k ps h1 h2
        cases e
        obtain ⟨L, e1, e2, e3, e4⟩ := pairsT_reps w r h2
        cases h with
        | tup ha hr =>
          cases hr with
          | cons hk hr =>
            cases hr with
            | cons hv hr =>
              cases hr
              cases hk with
              | @tup bb _ _ hb hrb =>
                have hx := keys_vals hrb h1
                subst hx
                refine ⟨(_, k, bb, _) :: L, by rw [e1]; rfl, by simp [e2], .cons hv e3, fun t ht => ?_⟩
                rcases List.mem_cons.mp ht with rfl | ht
                · exact ⟨ha, hb⟩
                · exact e4 t ht
      · cases e
    · cases e
theorem cB_dictT (hc : X.calm = true) (hu : X.A.units + 65 < cLine) : CallR X (.type "dict") (rB c .own (one dictTD)) := cB_one fun pins s σ H F ds0 x us Q d1 d I wf r r1 e q => by
  unfold dictTD at e
  split at e
  · rename_i ds
    obtain ⟨ps, hps, rfl⟩ := Option.map_eq_some_iff.mp e
    obtain ⟨p, xs, rfl, hp, rx⟩ := bor_lst wf r1
    rw [Vals.ref1 r]
    obtain ⟨L, rfl, e2, e3, e4⟩ := pairsT_reps wf.sub rx hps
    obtain ⟨its, rv, pl, hz⟩ := I.list (SqL.of hp)
    have eits : its = L.map fun t => Value.ref t.1 := by
      have : ∀ {L : List (Addr × List Key × Addr × V)} {us : List Value}, Vals (L.map fun t => V.ref t.1) us → us = L.map fun t => Value.ref t.1 := by
        intro L
        induction L with
        | nil => intro us r; cases r; rfl
        | cons t L ih => intro us r; cases r with | cons a b => cases a; rw [ih b]; rfl
      exact this rv
    -- the raw values of the pairs
    have raw : ∀ L2 : List (Addr × List Key × Addr × V), (∀ t ∈ L2, t ∈ L) → ∃ us : List Value, us.length = L2.length ∧ Vals (L2.map fun t => t.2.2.2) us ∧ ∀ (j : Nat) (t : Addr × List Key × Addr × V) (u : Value), L2[j]? = some t → us[j]? = some u → IsTup s.heap t.1 #[.ref t.2.2.1, u] := by
      intro L2
      induction L2 with
      | nil => intro _; exact ⟨[], rfl, .nil, fun j t u h => by simp at h⟩
      | cons t L2 ih =>
        intro hs
        obtain ⟨us, h1, h2, h3⟩ := ih fun z hz => hs z (List.mem_cons_of_mem _ hz)
        obtain ⟨its, rr, ht, _⟩ := I.tuple (SqT.of (wf.sub _ _ (e4 t (hs t List.mem_cons_self)).1))
        obtain ⟨u1, u2, rfl, a1, a2⟩ := vals2 rr
        cases a1
        refine ⟨u2 :: us, by simp [h1], .cons a2 h2, fun j z u hj hu => ?_⟩
        cases j with
        | zero => simp at hj hu; subst hj hu; exact ht
        | succ j => exact h3 j z u (by simpa using hj) (by simpa using hu)
    obtain ⟨us2, hl2, hv2, ht2⟩ := raw L fun t h => h
    obtain ⟨ol, n, ho, hcl, hdn, hdat⟩ := pl
    -- the pairs with their keys' addresses
    let pr : List (List Key × Addr × Value) := (L.zip us2).map fun z => (z.1.2.1, z.1.2.2.1, z.2)
    have hprl : pr.length = L.length := by simp [pr, hl2]
    have prget : ∀ {i : Nat} {k : List Key} {b : Addr} {v : Value}, pr[i]? = some (k, b, v) → ∃ t, L[i]? = some t ∧ us2[i]? = some v ∧ t.2.1 = k ∧ t.2.2.1 = b := fun {i k b v} h => by
      simp only [pr, List.getElem?_map] at h
      cases hz2 : (L.zip us2)[i]? with
      | none => rw [hz2] at h; cases h
      | some z =>
        rw [hz2] at h
        obtain ⟨h1, h2⟩ := List.getElem?_zip_eq_some.mp hz2
        have hh := Option.some.inj h
        simp only [Prod.mk.injEq] at hh
        obtain ⟨a, b', c'⟩ := hh
        exact ⟨z.1, h1, by rw [h2, c'], a, b'⟩
    have ats : ∀ i k v, (pr.map fun z => (Value.ref z.2.1, z.2.2))[i]? = some (k, v) → its.toArray[i]? = some (Value.ref ((fun j => (L.map (·.1)).getD j 0) i)) ∧ PySem.PairAt s.heap ((fun j => (L.map (·.1)).getD j 0) i) k v := fun i k v h => by
      rw [List.getElem?_map] at h
      cases hp2 : pr[i]? with
      | none => rw [hp2] at h; cases h
      | some z =>
        rw [hp2] at h
        obtain ⟨kk, bb, vv⟩ := z
        cases h
        obtain ⟨t, h1, h2, h3, h4⟩ := prget hp2
        have ea : (L.map (·.1)).getD i 0 = t.1 := by rw [List.getD_eq_getElem?_getD, List.getElem?_map, h1]; rfl
        refine ⟨?_, .inl ?_⟩
        · show its.toArray[i]? = some (Value.ref ((L.map (·.1)).getD i 0))
          rw [ea, eits]
          simp [h1]
        · show s.heap.IsTuple ((L.map (·.1)).getD i 0) _
          rw [ea]
          have := ht2 i t vv h1 h2
          rw [h4] at this
          exact this
    have isk : ∀ z ∈ pr, (PySem.tupleKind (mixKind X.prog X.w)).is s.heap z.1 z.2.1 := fun z hz2 => by
      obtain ⟨i, hi, he⟩ := List.mem_iff_getElem.mp hz2
      obtain ⟨kk, bb, vv⟩ := z
      obtain ⟨t, h1, h2, h3, h4⟩ := prget (i := i) (by rw [List.getElem?_eq_getElem hi, he])
      have := key_of I.hok (wf.sub _ _ (e4 t (List.mem_of_getElem? h1)).2)
      rw [h3, h4] at this
      exact this
    have hlen : ps.length = L.length := by have := congrArg List.length e2; simpa using this.symm
    -- the new dict as the layer holds it
    have kt : ∀ (L2 : List (Addr × List Key × Addr × V)) (us : List Value) (acc : List (List Key × V)) (acc' : List (List Key × Addr × Value)), (∀ t ∈ L2, t ∈ L) → us.length = L2.length → Vals (L2.map fun t => t.2.2.2) us → KT H acc acc' →
        KT H ((L2.map fun t => (t.2.1, t.2.2.2)).foldl (fun acc kv => putK acc kv.1 kv.2) acc) (PySem.storedAllH acc' ((L2.zip us).map fun z => (z.1.2.1, z.1.2.2.1, z.2))) ∧ ((L2.map fun t => (t.2.1, t.2.2.2)).foldl (fun acc kv => putK acc kv.1 kv.2) acc).length ≤ acc.length + L2.length := by
      intro L2
      induction L2 with
      | nil => intro us acc acc' _ _ _ h; exact ⟨h, Nat.le_refl _⟩
      | cons t L2 ih =>
        intro us acc acc' hs hl hv h
        cases us with
        | nil => simp at hl
        | cons u us =>
          simp only [List.map_cons] at hv
          cases hv with
          | cons a b =>
            obtain ⟨h1, h2⟩ := ih us (putK acc t.2.1 t.2.2.2) (storedH acc' t.2.1 t.2.2.1 u) (fun z hz => hs z (List.mem_cons_of_mem _ hz)) (by simpa using hl) b (h.put t.2.1 (wf.sub _ _ (e4 t (hs t List.mem_cons_self)).2) a)
            refine ⟨h1, Nat.le_trans h2 ?_⟩
            have := length_putK acc t.2.1 t.2.2.2
            rw [List.length_cons]
            omega
    obtain ⟨kt1, kt2⟩ := kt L us2 [] [] (fun t h => h) hl2 hv2 .nil
    have hz2 : L.length ≤ sizeLine := by rw [List.length_map] at hz; exact hz
    refine PySem.call_dict_pairsH (knd := PySem.tupleKind (mixKind X.prog X.w)) (ps := pr) (PySem.PairArg.list p its.toArray (fun j => (L.map (·.1)).getD j 0) (pr.map fun z => (Value.ref z.2.1, z.2.2))) (I.ok.hd hc) (PySem.tupleKind_room_in1 (A := X.A.in1) (by show X.A.units + 1 + 1 < cLine; omega)) ⟨⟨ol, n, ho, hcl, hdn, hdat⟩, ⟨by rw [List.length_map, hprl, eits]; simp, ats⟩⟩
      ⟨(List.length_map _).symm, fun i key v h => ?_⟩ (fun h' hk x hx => ?_) (by rw [List.length_map, hprl]; exact hz2) fun h' tk hd' hk => ?_
    · have h : (pr.map fun z => (Value.ref z.2.1, z.2.2))[i]? = some (key, v) := h
      rw [List.getElem?_map] at h
      cases hp2 : pr[i]? with
      | none => rw [hp2] at h; cases h
      | some z => rw [hp2] at h; obtain ⟨kk, bb, vv⟩ := z; cases h; exact ⟨kk, bb, rfl, rfl⟩
    · obtain ⟨o, items, n, h1, r⟩ := isk x hx
      exact ⟨o, items, n, hk _ _ (Nat.ne_of_lt (Heap.lt_size h1)) (by simp) h1, r⟩
    · have hm : (s.heap.objs.size == sysModules) = false := beq_eq_false_iff_ne.mpr (Nat.ne_of_gt I.big)
      have hn : H s.heap.objs.size = none := I.hok.fresh (Nat.le_refl _)
      obtain ⟨o, es, ep, g1, g2, g3, g4, g5, g6⟩ := hd'
      have hk' : ∀ b o, s.heap.get? b = some o → h'.get? b = some o := fun b o e => hk b o (by simp) e
      obtain ⟨q1, q2⟩ := reps_merge (kvs := ([] : List (List Key × V))) (es := ([] : List (List Key × D))) (more := L.map fun t => (t.2.1, t.2.2.2)) (rs := ps) (by rw [List.map_map]; exact e2) (by rw [List.map_map]; exact e3) rfl .nil
      refine ⟨.ref s.heap.objs.size, upd H s.heap.objs.size (.dT ((L.map fun t => (t.2.1, t.2.2.2)).foldl (fun acc kv => putK acc kv.1 kv.2) [])), I.laid (t' := tk) hk' (Nat.le_refl _) (show ObjOk X.prog X.w _ _ _ (.dT _) from ⟨?_, hm, _, kt1.keeps fun b ys e => ?_, o, es, ep, g1, g2, g3, g4, g6⟩), rfl, ?_⟩
      · simp only [List.length_nil, Nat.zero_add] at kt2
        omega
      · rw [upd_ne (ne_of_none e hn)]; exact e
      · exact q _ _ F (Next.laid wf hn) (.inr ⟨_, rfl, hn, free_F wf hn, wf.notDr hn, _, upd_same, q1, q2⟩)
  · cases e
end
end Mn

/-! Mn21: where the draws begin: the dict is made, and from there on it is the draws'. -/
namespace Mn
open PySem PySem.Spec PyProof.Rows L2

/-- what making the draws' dict asks and gives: f1 the large numbers' list, fc the cells' -/
def fBeg (f1 fc : EvF) (ρ : Env) (s : DS) (large cells : List Int) : Prop :=
  ∃ ρ1 s1 s2, fAsg 1 true f1 ρ s = .ok (.nx ρ1) s1 ∧ ρ1[1]? = some (.own (.lst (large.map D.int))) ∧ fc ρ1 s1 = .ok (.lst (cells.map D.int)) s2
def Begun (H : Hp) (large cells : List Int) (Q : VK) : Prop := ∀ d l e H', (∀ b o, H b = some o → H' b = some o) → H d = none → H l = none → H e = none → d ≠ l → d ≠ e → l ≠ e →
  H' d = some (.dK [(.inr "large", .ref l), (.inr "rest", .int 0), (.inr "cells", .ref e), (.inr "turn", .int 0)]) → H' l = some (.lst (large.map V.int)) → H' e = some (.lst (cells.map V.int)) → Q (.ref d) H'
def tBeg (c : Cfg) (f1 fc : EvF) : TS := fun D σ H => c.dr = none ∧ ∃ F ρ s large cells, SimS c H F σ H F ρ s ∧ fBeg f1 fc ρ s large cells ∧ Begun H large cells D.rt
section
variable {X : Cx} {c : Cfg} {E : XK} {f1 fc : EvF}
theorem intsD_map : ∀ is : List Int, intsD (is.map D.int) = some is
  | [] => rfl
  | i :: r => by simp only [List.map_cons, intsD, intsD_map r]
theorem beg_body {st1 : Stmt} {cmp : Expr} {x : Str} {p q1 q2 q3 q4 q5 q6 pos pos2 : Pos} {j1 j2 j3 j4 j5 j6 : Nat} (h1 : PS X st1 (tS c E .val (fAsg 1 true f1))) (hN : X.N[1]? = some x) (hv : Vis X.env.scope x) (hd : (x == ("__debug__" : Str)) = false) (hcd : (x == ("__classdict__" : Str)) = false)
    (hc : PE X cmp (tK c E .own fc)) :
    PSs X [st1, .Return (some (.Dict [some (.Constant (.str "large") j1 q1), some (.Constant (.str "rest") j2 q2), some (.Constant (.str "cells") j3 q3), some (.Constant (.str "turn") j4 q4)] [.Name x p, .Constant (.int 0) j5 q5, cmp, .Constant (.int 0) j6 q6] pos)) pos2] (tBeg c f1 fc) := by
  have hp := pps_cons (pos := pos) (pe_str (X := X) (x := "large") (j := j1) (pos := q1)) (pe_var hN hv hd hcd (pos := p)) (pps_cons (pe_str (x := "rest") (j := j2) (pos := q2)) (pe_int (i := 0) (j := j5) (pos := q5)) (pps_cons (pe_str (x := "cells") (j := j3) (pos := q3)) hc (pps_cons (pe_str (x := "turn") (j := j4) (pos := q4)) (pe_int (i := 0) (j := j6) (pos := q6)) pps_nil)))
  refine (pss_cons h1 (pss_one (ps_ret (pe_disp hp rfl rfl (by simp) (by simp))))).imp fun D σ H ⟨hdr, F, ρ, s, large, cells, sim, ⟨ρ1, s1, s2, e1, e2, e3⟩, q⟩ => ?_
  refine ⟨H, F, F, ρ, s, sim, ?_⟩
  rw [e1]
  intro σ' H' F' sim1
  obtain ⟨o, ho, v, rfl, hown⟩ := slot_at sim1.sim e2
  obtain ⟨l, rfl, hFl, hnl, xl, hl, rl⟩ := hown
  have l0 : H l = none := sim1.own0 1 l _ ho e2
  cases rl.ints (intsD_map large)
  intro p hp
  have n0 := Next.laid (o := .dK []) sim1.next.wf hp
  have keep1 : ∀ b o, H b = some o → H' b = some o := fun b o z => sim1.next.keep b o z (by unfold isDr; rw [hdr]; exact id)
  refine ⟨_, ho, F', ρ1, s1, sim1.sim.next n0, ?_⟩
  rw [e3]
  intro v H2 F2 n2 r2
  have noDr : ∀ a, ¬ isDr c a := fun a => by unfold isDr; rw [hdr]; exact id
  have keep2 : ∀ b o, (upd H' p (.dK [])) b = some o → H2 b = some o := fun b o z => n2.keep b o z (noDr b)
  rcases r2 with ⟨z, _⟩ | ⟨e, rfl, he0, _, _, xe, he, re⟩
  · cases z
  cases re.ints (intsD_map cells)
  have hlp : H' l = some (.lst (large.map V.int)) := hl
  have nlp : l ≠ p := fun z => by rw [z, hp] at hlp; cases hlp
  have nel : e ≠ l := fun z => by rw [z, upd_ne nlp, hlp] at he0; cases he0
  have nep : e ≠ p := fun z => by rw [z, upd_same] at he0; cases he0
  have e0 : H e = none := by
    cases z : H e with
    | none => rfl
    | some u =>
      have := keep1 _ _ z
      rw [upd_ne nep, this] at he0
      cases he0
  have p0 : H p = none := by
    cases z : H p with
    | none => rfl
    | some u =>
      have := keep1 _ _ z
      rw [this] at hp
      cases hp
  refine ⟨keep2 p _ upd_same, [(.inr "large", .ref l), (.inr "rest", .int 0), (.inr "cells", .ref e), (.inr "turn", .int 0)], rfl, by simp, ?_⟩
  refine q p l e _ (fun b o z => ?_) p0 l0 e0 (Ne.symm nlp) (Ne.symm nep) (Ne.symm nel) upd_same ?_ ?_
  · have b' : b ≠ p := fun w => by rw [w, p0] at z; cases z
    rw [upd_ne b']
    exact keep2 b o (by rw [upd_ne b']; exact keep1 b o z)
  · rw [upd_ne nlp]
    exact keep2 l _ (by rw [upd_ne nlp]; exact hlp)
  · rw [upd_ne nep]
    exact he
end
section
variable {P : Program} {w : World} {K : PySem.W.Frag} {mg : Str → Option Value} {base : Heap} {c : Cfg}
/-- _law_begun -/
def spBeg (c : Cfg) (n : Nat) (f1 fc : EvF) : Sp := fun vs H Q _ => c.dr = none ∧ ∃ v d s large cells, vs = [v] ∧ Rep c H v d ∧ fBeg f1 fc (.val d :: List.replicate n .un) s large cells ∧ Begun H large cells Q
theorem fn_beg {x qual y : Str} {params : Arguments} {body : List Stmt} {scope : Scope} {f : Addr} {fd : FuncData} {N : List Str} {k n : Nat} {f1 fc : EvF} (F : FunD K x qual params body scope [] [] f fd) (S : FnScope N [y] scope) (hn : N.length = n + 1)
    (hb : ∀ (cdv : Value) (A : Around) (outer : List PySem.Env) (s : Shared) (H : Hp) (E : XK), Room k (A.deeper (envOfC qual scope s.heap.objs.size f cdv)) → PSs (cxOf (L2.CX P w) P w K mg base N qual scope f cdv A outer s H E) body (tBeg c f1 fc)) :
    FnOk P w K mg base (L2.CX P w) (k + 1) f fd [y] (spBeg c n f1 fc) := by
  refine F.ok S (fun vs H Q E h => by obtain ⟨_, v, _, _, _, _, rfl, _⟩ := h; rfl) fun cdv A outer s H vs Q E hr h => ⟨tBeg c f1 fc, hb cdv A outer s H E hr, ?_⟩
  obtain ⟨hdr, v, d, s0, large, cells, rfl, r, fb, q⟩ := h
  have wf : Wf c H H s0 := ⟨Same.refl _, by unfold DrawOk; rw [hdr]; trivial, fun a z => by unfold isDr at z; rw [hdr] at z; exact z.elim, by unfold CellOk; rw [hdr]; trivial⟩
  refine ⟨hdr, H, _, s0, large, cells, SimS.ofSim (Next.refl wf) (ρ := .val d :: List.replicate n .un) ?_ fun i z hi => ?_, fb, q⟩
  · have := reps_start (c := c) (H := H) (F := H) (N := N) (.cons r .nil) n
    unfold L2.start
    simpa [hn] using this
  · cases i with
    | zero => simp at hi
    | succ i =>
      rw [List.getElem?_cons_succ, List.getElem?_replicate] at hi
      split at hi <;> cases hi
end
end Mn

/-! Mn22: the law's own def: the draws begin, then it runs by data. -/
namespace Mn
open PySem PySem.Spec PyProof.Rows L2

/-- the layer's facts with the draws at some place -/
abbrev Cfg.at (c : Cfg) (d l e : Addr) : Cfg := { c with dr := some (d, l, e) }
def LawGood (f1 fc : EvF) (g : StF) (n m : Nat) (ns : List Int) : Prop := ∃ s large cells s', fBeg f1 fc (.val (.scr ns) :: List.replicate n .un) s large cells ∧ g (.val (.scr ns) :: .val .drw :: List.replicate m .un) ⟨large, 0, cells, 0⟩ = .ok (.rt (.bl true)) s'
def tLaw (c : Cfg) (f1 fc : EvF) (g : StF) (n m : Nat) : TS := fun D σ H => c.dr = none ∧ ∃ v ns, σ = some v :: none :: List.replicate m none ∧ Rep c H v (.scr ns) ∧ LawGood f1 fc g n m ns ∧ ∀ H', D.rt (.bl true) H'
section
variable {X : Cx} {c : Cfg} {E : XK} {f1 fc : EvF} {g : StF} {n m k k' : Nat}
theorem law_body {x y z : Str} {f : Addr} {fd : FuncData} {p1 p2 p3 p4 pos : Pos} {rest : List Stmt} (hN : X.N.Nodup) (h0 : X.N[0]? = some y) (h1 : X.N[1]? = some x) (hx : Loc X.env.scope x) (hv : Vis X.env.scope y) (hdy : (y == ("__debug__" : Str)) = false) (hcy : (y == ("__classdict__" : Str)) = false)
    (hfn : X.fn x = true ∨ X.env.scope.names.lookup x = some .local) (hF : FnOk X.prog X.w X.K X.mg X.base (L2.CX X.prog X.w) k f fd [y] (spBeg c n f1 fc)) (hr : Room k' X.A) (hk : k ≤ k') (hg : Gl X z) (hm : X.mg z = some (.ref f)) (hkp : PySem.W.keepIn X.K (.ref f) = true) (hb : Binds X.K fd [y] [])
    (hxp : Passes (L2.CX X.prog X.w) X E) (hdb : (z == ("__debug__" : Str)) = false) (he : starEach [.Name y p3] X.env = (false, eval (.Name y p3) X.env) :: starEach [] X.env) (hs : swapsWith (.Call (.Name z p2) [.Name y p3] [] p4) (some (.Name x p1)) pos.line X.env = pure false)
    (hrest : ∀ d l e, PSs X rest (tS (c.at d l e) E .val g)) :
    PSs X (.Assign [.Name x p1] (.Call (.Name z p2) [.Name y p3] [] p4) pos :: rest) (tLaw c f1 fc g n m) := by
  have hall : PSs X rest (fun D σ H => ∃ d l e, tS (c.at d l e) E .val g D σ H) := ⟨fun pins s σ H D I ⟨d, l, e, h⟩ => (hrest d l e).run pins s σ H D I h⟩
  refine (pss_cons (ps_set hN h1 hx (pe_call hF (hr.mono hk) hg hm hkp hb .nil hxp (pa_cons (pe_var h0 hv hdy hcy) pa_nil he) hdb he rfl) hs hfn) hall).imp fun D σ H ⟨hdr, v, ns, eσ, r, ⟨s, large, cells, s', fb, eg⟩, q⟩ => ?_
  subst eσ
  refine ⟨v, rfl, hdr, v, .scr ns, s, large, cells, rfl, r, fb, fun d l e H' keep hd hl he ndl nde nle ed el ee => ?_⟩
  have sF : Same H (upd H e (.lst (cells.map V.int))) := same_upd (.inl he)
  have wf : Wf (c.at d l e) H' (upd H e (.lst (cells.map V.int))) ⟨large, 0, cells, 0⟩ := by
    refine ⟨fun a o z => ?_, ⟨ed, el⟩, fun a z => ?_, ?_⟩
    · by_cases h : a = e
      · rw [h, upd_same] at z; cases z; rw [h]; exact ee
      · rw [upd_ne h] at z; exact keep a o z
    · rcases z with rfl | rfl
      · rw [upd_ne nde]; exact hd
      · rw [upd_ne nle]; exact hl
    · show (upd H e (.lst (cells.map V.int))) e = _
      rw [upd_same]
  refine ⟨d, l, e, H', _, _, .val (.scr ns) :: .val .drw :: List.replicate m .un, ⟨large, 0, cells, 0⟩, SimS.ofSim (Next.refl wf) ⟨by simp, fun i o sl a1 a2 => ?_⟩ (fun i z hi => ?_), ?_⟩
  · match i with
    | 0 =>
      simp at a1 a2
      subst a1 a2
      refine ⟨v, rfl, ?_⟩
      cases r with
      | scr hq => exact .scr (same_seqL sF hq)
    | 1 =>
      simp at a1 a2
      subst a1 a2
      exact ⟨_, rfl, .drw rfl⟩
    | i + 2 =>
      simp only [List.getElem?_cons_succ, List.getElem?_replicate] at a2
      split at a2 <;> cases a2
      trivial
  · match i with
    | 0 => simp at hi
    | 1 => simp at hi
    | i + 2 =>
      simp only [List.getElem?_cons_succ, List.getElem?_replicate] at hi
      split at hi <;> cases hi
  · rw [eg]
    intro v H2 F2 n2 r2
    cases r2 with
    | bl b => exact q H2
end

/-! ### the law called from its caller -/
/-- what the law's def does, called where A stands -/
def RunAt (P : Program) (w : World) (K : PySem.W.Frag) (mg : Str → Option Value) (base : Heap) (A : Around) (f : Addr) (fd : FuncData) (ps : List Str) (sp : Sp) : Prop :=
  ∀ (outer : List PySem.Env) (s : Shared) (H : Hp) (args : Args) (us : List Value) (vs : List V) (Q : VK) (E : XK), Env0 P w K mg base A outer s H → BindsTo s fd args (ps.zip us) → Vals vs us → sp vs H Q E →
    codeAny (model P w) A (.call (.ref f) args) (CR (L2.CX P w) outer P w H s Q E) s
theorem run_at {P : Program} {w : World} {K : PySem.W.Frag} {mg : Str → Option Value} {base : Heap} {x qual : Str} {params : Arguments} {body : List Stmt} {scope : Scope} {f : Addr} {fd : FuncData} {N ps : List Str} {k : Nat} {A : Around} {sp : Sp}
    (F : FunD K x qual params body scope [] [] f fd) (S : FnScope N ps scope) (hr : Room (k + 1) A) (len : ∀ vs H Q E, sp vs H Q E → vs.length = ps.length)
    (hbody : ∀ (cdv : Value) (outer : List PySem.Env) (s : Shared) (H : Hp) (vs : List V) (Q : VK) (E : XK), Room k (A.deeper (envOfC qual scope s.heap.objs.size f cdv)) → (A.deeper (envOfC qual scope s.heap.objs.size f cdv)).guards = A.guards → sp vs H Q E →
      ∃ t, PSs (cxOf (L2.CX P w) P w K mg base N qual scope f cdv A outer s H E) body t ∧ t { nx := fun _ H' => Q .non H', rt := Q } (L2.start N vs) H) : RunAt P w K mg base A f fd ps sp := by
  obtain ⟨oc, od, dV, kV, doc, pm, an, cdv, ct, osl, rfl, lk, hcd, _, _⟩ := F.ex
  intro outer s H args us vs Q E e0 hb r hsp
  have hl := len _ _ _ _ hsp
  have KX : K.In s.heap := e0.mod.kin.keeps fun b o e => (e0.bs b o e).1
  have lim : s.heap.NoLimit := e0.mod.nolimit.keeps fun b o e => (e0.bs b o e).1
  refine codeAny_call_function hr.depth (KX _ _ lk) rfl S.co S.gen rfl (PySem.W.codeRec_of KX hcd) (hb _ _ _ _ ?_)
  refine wpAny_newFunctionEnv_cells S.kind (fun ⟨n, v⟩ hy => ?_) fun env he s1 x => ?_
  · rcases S.par n (List.of_mem_zip hy).1 with q | q
    · exact .inl q
    · exact .inr ⟨q, PySem.W.cellsFrom_some _ _ _ (.inl q)⟩
  subst he
  refine ⟨lim.keeps x.toInCall.keep, codeAny_func ?_⟩
  obtain ⟨t, ht, hq⟩ := hbody _ outer s H vs Q E (hr.deeper _) rfl hsp
  refine wpAny_mono (ht.run [] s1 _ H _ (inv_start S hr.hd e0 hl r x) hq) (fun fl s' hs => ?_) fun e s' hs => hs
  cases fl with
  | ret u =>
    obtain ⟨v, σ', H', J, rv, q⟩ := hs
    exact ⟨v, H', J.os, J.bare, J.base, J.hok, rv, q⟩
  | next =>
    obtain ⟨σ', H', J, q⟩ := hs
    exact ⟨.non, H', J.os, J.bare, J.base, J.hok, rfl, q⟩
  | brk =>
    obtain ⟨_, _, _, q⟩ := hs
    exact False.elim q
  | cont =>
    obtain ⟨_, _, _, q⟩ := hs
    exact False.elim q
def spLaw (c : Cfg) (f1 fc : EvF) (g : StF) (n m : Nat) : Sp := fun vs H Q _ => c.dr = none ∧ ∃ v ns, vs = [v] ∧ Rep c H v (.scr ns) ∧ LawGood f1 fc g n m ns ∧ ∀ H', Q (.bl true) H'
theorem run_law {P : Program} {w : World} {K : PySem.W.Frag} {mg : Str → Option Value} {base : Heap} {x qual y : Str} {params : Arguments} {body : List Stmt} {scope : Scope} {f : Addr} {fd : FuncData} {N : List Str} {k n m : Nat} {A : Around} {c : Cfg} {f1 fc : EvF} {g : StF}
    (F : FunD K x qual params body scope [] [] f fd) (S : FnScope N [y] scope) (hn : N.length = m + 2) (hr : Room (k + 1) A)
    (hbody : ∀ (cdv : Value) (outer : List PySem.Env) (s : Shared) (H : Hp) (E : XK), Room k (A.deeper (envOfC qual scope s.heap.objs.size f cdv)) → (A.deeper (envOfC qual scope s.heap.objs.size f cdv)).guards = A.guards → PSs (cxOf (L2.CX P w) P w K mg base N qual scope f cdv A outer s H E) body (tLaw c f1 fc g n m)) :
    RunAt P w K mg base A f fd [y] (spLaw c f1 fc g n m) := by
  refine run_at F S hr (fun vs H Q E h => by obtain ⟨_, v, _, rfl, _⟩ := h; rfl) fun cdv outer s H vs Q E hr' hg h => ⟨_, hbody cdv outer s H E hr' hg, ?_⟩
  obtain ⟨hdr, v, ns, rfl, r, lg, q⟩ := h
  refine ⟨hdr, v, ns, ?_, r, lg, q⟩
  unfold L2.start
  simp [hn, List.replicate_succ]
end Mn

/-! Mn23: the law's promise out of what its def does where the law is called. -/
namespace Mn
open PySem PySem.Spec PyProof.Rows L2

theorem not_nil {α : Type} {b : α} : b ∉ ([] : List α) := fun z => nomatch z
/-- the law's def runs at its caller's place, and gives True -/
theorem law_at {P : Program} {w : World} {K : PySem.W.Frag} {mg mb : Str → Option Value} {fa a : Addr} {fd : FuncData} {x : Str} {sp : Sp} {s₁ : Shared} {H : Hp} {os : Obj}
    (KX : K.In s₁.heap) (hns : s₁.heap.Ns mainGlobals mg) (hb : s₁.heap.Ns builtinsNs mb) (hbb : ∀ x : Str, x ≠ "__name__" → mb x = bootBuiltins x) (hlim : s₁.heap.NoLimit) (hg : s₁.gens = #[])
    (ha : s₁.heap.get? a = some os) (hos : ∀ es ep, os.data ≠ .dict es ep) (hok : HOk P w H s₁.heap) (hH : ∀ b, H b ≠ none → b = a ∧ K.lookup a = none ∧ ∃ xs, H b = some (.frz os (.lst xs)))
    (F : ∀ base : Heap, K.In base → base.Ns mainGlobals mg → RunAt P w K mg base callerA fa fd [x] sp) (hbind : ∀ (s : Shared) (u : Value), BindsTo s fd ⟨[u], []⟩ [(x, u)])
    (hsp : sp [.ref a] H (fun v _ => v = .bl true) fun _ _ _ => False) (hCX : ∀ e s', L2.CX P w [] H s₁ (fun _ _ _ => False) e s' → False) :
    codeAny (model P w) callerA (.call (.ref fa) ⟨[.ref a], []⟩) (fun r s' => r = .ok (.ret (.bool true)) ∧ OldK s₁.heap s'.heap ∧ s'.os = s₁.os ∧ AllBare s'.gens) s₁ := by
  have only : ∀ {b : Addr}, b ≠ a → H b = none := fun {b} h => by
    cases z : H b with
    | none => rfl
    | some u => exact absurd (hH b (by rw [z]; simp)).1 h
  have seen : ∀ {b : Addr} {o : Obj}, s₁.heap.get? b = some o → H b = none → (hidT s₁.heap H).get? b = some o := fun e n => hidT_get e n
  have ns' : ∀ {b : Addr} {m : Str → Option Value}, s₁.heap.Ns b m → (hidT s₁.heap H).Ns b m := fun {b m} ⟨o, es, ep, e, d, r⟩ => ⟨o, es, ep, seen e (only fun z => by
    rw [z, ha] at e
    cases e
    exact hos _ _ d), d, r⟩
  have kin : K.In (hidT s₁.heap H) := fun b o e => seen (KX b o e) (by
    cases z : H b with
    | none => rfl
    | some u =>
      obtain ⟨rfl, h2, _⟩ := hH b (by rw [z]; simp)
      rw [h2] at e
      cases e)
  obtain ⟨mc, l1, l2⟩ := hlim
  have e0 : Env0 P w K mg (hidT s₁.heap H) callerA [] s₁ H := ⟨rfl, ⟨kin, ns' hns, ⟨mb, ns' hb, hbb⟩, mc, ns' l1, l2⟩, fun b o e => of_hidT e, Nat.le_of_eq (hidT_size _ _), trivial, fun b hb => (not_nil hb).elim, hok, .of_eq hg⟩
  refine codeAny_mono (F _ kin (ns' hns) [] s₁ H ⟨[.ref a], []⟩ [.ref a] [.ref a] _ _ e0 (hbind s₁ (.ref a)) (.cons rfl .nil) hsp) fun r s' h => ?_
  match r, h with
  | .error e, h => exact (hCX e s' h).elim
  | .ok .next, h => exact False.elim h
  | .ok .brk, h => exact False.elim h
  | .ok .cont, h => exact False.elim h
  | .ok (.ret u), ⟨v, H', os', bare, un, hok', rv, q⟩ =>
    have q : v = V.bl true := q
    subst q
    obtain rfl : u = Value.bool true := rv
    refine ⟨rfl, OldK.of_keep fun b o e => ?_, os', bare⟩
    cases z : H b with
    | none => exact un.keep b o e z (fun y => (not_nil y).elim) not_nil
    | some t =>
      obtain ⟨_, _, xs, hx⟩ := hH b (by rw [z]; simp)
      obtain ⟨e1, _⟩ := hok b _ hx
      obtain ⟨e2, _⟩ := hok' b _ (un.frzs b os _ hx)
      rw [e] at e1
      cases e1
      exact e2
/-- the law's promise: F gives the written part, the function object, what it does over every base -/
theorem walk_law {l : PySem.W.OpenLaw} {n : Nat} {q : Program} {loose : List Str} {XP : (Str → Option Value) → Heap → Prop} {YP : World → Heap → Prop} {d : DefRec} {x : Str}
    (hn : l.most = some n) (hn2 : n ≤ sizeLine) (hdf : d.params.defaults = [])
    (F : ∀ (w : World) (mg : Str → Option Value) (fa : Addr) (h : Heap), YP w h → h.Ns mainGlobals mg → mg d.name = some (.ref fa) →
      ∃ (K : PySem.W.Frag) (fd : FuncData) (sp : Sp), K.In h ∧ (∀ (s : Shared) (u : Value), BindsTo s fd ⟨[u], []⟩ [(x, u)]) ∧
        (∀ (H : Hp) (a : Addr) (ns : List Int), ns.length ≤ n → (∀ z ∈ ns, Builtin.Int.intBits z ≤ 1048576) → SqL K H a (ns.map V.int) → sp [.ref a] H (fun v _ => v = .bl true) fun _ _ _ => False) ∧
        ∀ base : Heap, K.In base → base.Ns mainGlobals mg → RunAt l.prog w K mg base callerA fa fd [x] sp)
    (hCX : ∀ (w : World) (H : Hp) (s : Shared) (e : Value) (s' : Shared), L2.CX l.prog w [] H s (fun _ _ _ => False) e s' → False) :
    PySem.W.WalkO q loose XP YP l.row.toRowW d [] (fun f vs => PySem.call f vs) := by
  refine Att.attach_callB hn hdf fun w s₀ s₁ mg mb fa o pm cd doc a vs ns G Y ho hd hcd hmg hobj hints hlen hbits hg => ?_
  obtain ⟨K, fd, sp, KX, hb, hsp, hF⟩ := F w mg fa _ Y G.T.g hmg
  have hl := Nat.le_trans hlen hn2
  have rv := vals_ints hints
  have lenV := hints.length
  have dat : ∀ es ep, ({ cls := .type "list", data := .seq vs.toArray } : Obj).data ≠ .dict es ep := fun es ep z => by cases z
  cases hk : K.lookup a with
  | some o' =>
    have e := KX a o' hk
    rw [hobj] at e
    cases e
    exact law_at (H := fun _ => none) KX G.T.g G.T.b G.T.builtins G.T.nolimit hg hobj dat (fun b u z => by cases z) (fun b z => absurd rfl z) hF hb
      (hsp _ a ns hlen hbits (.inr ⟨_, vs.toArray, _, hk, rfl, rfl, rfl, by rw [List.size_toArray, lenV]; exact hl, by simpa using rv⟩)) fun e s' => hCX w _ s₁ e s'
  | none =>
    have here : upd (fun _ => none) a (.frz { cls := .type "list", data := .seq vs.toArray } (.lst (ns.map V.int))) a = some (.frz { cls := .type "list", data := .seq vs.toArray } (.lst (ns.map V.int))) := upd_same
    refine law_at (H := upd (fun _ => none) a (.frz { cls := .type "list", data := .seq vs.toArray } (.lst (ns.map V.int)))) KX G.T.g G.T.b G.T.builtins G.T.nolimit hg hobj dat (fun b u z => ?_) (fun b z => ?_) hF hb
      (hsp _ a ns hlen hbits (.inl (.inr ⟨_, here⟩))) fun e s' => hCX w _ s₁ e s'
    · by_cases h : b = a
      · subst h
        rw [here] at z
        cases z
        exact ⟨hobj, by rw [List.length_map]; exact hl, vs, _, rv, hobj⟩
      · rw [upd_ne h] at z; cases z
    · by_cases h : b = a
      · subst h
        exact ⟨rfl, hk, _, here⟩
      · rw [upd_ne h] at z; exact absurd rfl z
end Mn

/-! Ex1: super().__init__(text) of an own exception over ValueError. -/
namespace Mn
open PySem PySem.Spec PyProof.Rows L2

theorem loadName_builtin {M : Model} {A : Around} {E : Value → Shared → Prop} {s : Shared} {env : PySem.Env} {x : Str} {mg mb : Str → Option Value} {v : Value} {Q : Value → Shared → Prop} (hk : env.scope.kind = .function) (hx : env.kindOf x = some .globalImplicit) (hg : s.heap.Ns env.globals mg) (hmiss : mg x = none) (hb : s.heap.Ns env.builtins mb) (hv : mb x = some v) (h : Q v s) :
    wpAny M A (loadName env x) Q E s := by
  unfold loadName
  simp only [Env.blockKind, hk, hx, ScopeKind.isAnnotationScope, Bool.false_and, Bool.false_eq_true, if_false]
  exact Calls.loadGlobal_builtin hg hmiss hb hv h
section
variable {P : Program} {w : World} {K : PySem.W.Frag} {C f a : Addr} {env : PySem.Env} {A : Around} {E : Value → Shared → Prop} {h : Heap} {g : Array GenState} {d : Drawn} {t : Nat} {os : OsState}
/-- ValueError.__init__ bound to the exception at a, called -/
theorem call_mw {u t1 : Addr} {rest : List Value} {Q : Value → Shared → Prop} (T : OexC K C) (X : K.In h) (hu : h.get? u = some (PySem.W.kxs_mw "ValueError.__init__" a)) (he : h.get? a = some ({ cls := .ref C, dict := none, data := .fields #[.ref t1, .none, .none, .none, .bool false, .none] } : Obj)) (hz : rest.length ≤ sizeLine)
    (hq : ∀ h', (∀ b o, b ≠ a → h.get? b = some o → h'.get? b = some o) → (∃ t2 : Addr, h'.get? a = some ({ cls := .ref C, dict := none, data := .fields #[.ref t2, .none, .none, .none, .bool false, .none] } : Obj)) → Q .none ⟨h', g, d, t, os⟩) :
    wpAny (model P w) A (call (.ref u) rest) Q E ⟨h, g, d, t, os⟩ := by
  obtain ⟨nm, qn, N, bs, bm, sn, sub, ab, col, dd, k0', k1', k2', k3', k5', hC0, hbm⟩ := T.cls
  have hCo := X _ _ hC0
  refine wpAny_call (codeAny_of_tree ?_)
  show wpAny _ A.in1 (callAny (.ref u) ⟨rest, []⟩) _ _ _
  simp only [callAny]
  refine wpAny_bind (wpAny_load hu ?_)
  simp only [PySem.W.kxs_mw, show (Value.type "method-wrapper" == Value.type "method" || Value.type "method-wrapper" == Value.type "builtin_function_or_method" || Value.type "method-wrapper" == Value.type "method-wrapper") = true by decide, if_true]
  refine PySem.W.KFB.if_so (by decide) ?_
  refine wpAny_bind (PySem.W.check_bound_init F.excBase_ValueError.toExcCallFacts hCo he rfl ?_)
  refine wpAny_bind (wpAny_pure (wpAny_pure ?_))
  refine ⟨plainId_quiet F.excBase_ValueError.init.plain _, codeAny_builtin F.excBase_ValueError.initEntry ?_⟩
  exact PySem.W.exc_init_tree (cls := .ref C) (t0 := t1) (dv := none) (c2 := .none) (c3 := .none) (b4 := .bool false) he hz fun h' k e' _ => hq h' k ⟨_, e'⟩
/-- super().__init__(text), in the body of the def at f -/
theorem super_init {body : List Stmt} {msg : Str} {j : Nat} {p0 p1 p2 p3 p4 : Pos} {pl : Sem Bool} {of occ : Obj} {fd : FuncData} {ar : Arg} {c0 cc t1 : Addr} {vs : Array Value} {file : Str} {tf : Tok} {cd : ClassData} {m mg mb : Str → Option Value} {Q : Value → Shared → Prop}
    (hev : eval (.Call (.Attribute (.Call (.Name "super" p0) [] [] p1) "__init__" p2) [.Constant (.str msg) j p3] [] p4) env = (do
      let ov ← attributeBase (.Call (.Name "super" p0) [] [] p1) "__init__" env (eval (.Call (.Name "super" p0) [] [] p1) env)
      standAt p2.atName
      let (f, first) ← holding [ov] (getMethod ov "__init__" pl)
      callWith p4 f first (backTo p4 (starEach [.Constant (.str msg) j p3] env)) []))
    (T : OexC K C) (X : K.In h) (hk : env.scope.kind = .function) (hks : env.kindOf "super" = some .globalImplicit) (hkc : env.kindOf "__class__" = some .free) (hfu : env.func = some f) (hf : h.get? f = some of) (hfd : of.data = .func fd)
    (hp : (fd.params.posonlyargs ++ fd.params.args).head? = some ar) (hco : env.code = .ref c0) (hcc : h.get? c0 = some occ) (hoc : occ.data = .fields vs) (hvs : vs[2]? = some (.str file tf)) (hfile : ((P.main.file : Str) == file) = true) (htop : (P.main.scope.names.lookup ("super" : Str)).isSome = false)
    (hg : h.Ns env.globals mg) (hmiss : mg "super" = none) (hb : h.Ns env.builtins mb) (hmb : mb "super" = some (.type "super")) (hcell : env.cells.lookup ("__class__" : Str) = some cc) (hcv : h.IsCell cc (some (.ref C)))
    (hks2 : env.kindOf ar.arg = some .local) (hloc : h.Ns env.locals m) (hself : m ar.arg = some (.ref a)) (hcl : PySem.W.clsIn K C = some cd) (hal : PySem.W.alongIn K "__init__" ((cd.mro.dropWhile (· != .ref C)).drop 1) = some (some (.builtin "ValueError.__init__")))
    (hopq : PySem.W.nsIn K cStatics "thirdparty.any" = some none) (hsub : PySem.W.mroIn K C (.ref C) = some true) (hsubV : PySem.W.subIn K (.ref C) (.type "ValueError") = some true)
    (he : h.get? a = some ({ cls := .ref C, dict := none, data := .fields #[.ref t1, .none, .none, .none, .bool false, .none] } : Obj))
    (hq : ∀ h' t', (∀ b o, b ≠ a → h.get? b = some o → h'.get? b = some o) → (∃ t2 : Addr, h'.get? a = some ({ cls := .ref C, dict := none, data := .fields #[.ref t2, .none, .none, .none, .bool false, .none] } : Obj)) → Q .none ⟨h', g, d, t', os⟩) :
    PySem.wpAt (model P w) A (.func body env) (eval (.Call (.Attribute (.Call (.Name "super" p0) [] [] p1) "__init__" p2) [.Constant (.str msg) j p3] [] p4) env) Q E ⟨h, g, d, t, os⟩ := by
  have hclo : ∃ oD, h.get? C = some oD ∧ oD.data = .cls cd := by
    have e := hcl
    unfold PySem.W.clsIn at e
    split at e
    · rename_i ho
      cases e
      exact ⟨_, X _ _ ho, rfl⟩
    · cases e
  obtain ⟨oD, hD, hDt⟩ := hclo
  refine PySem.ks_wpAt_MethodCall (PySem.ks_wpAt_super_base (s := ⟨h, g, d, t, os⟩) (f := f) (cc := c0) hks hkc (by decide) hfu hf hfd hp hco hcc hoc hvs hfile htop ?_) (he := hev)
  refine loadName_builtin hk hks hg hmiss hb hmb ⟨rfl, ?_⟩
  refine wpAny_loadName_free (c := cc) hk hkc hcell hcv ?_
  refine wpAny_loadName_local hk hks2 hloc hself ?_
  refine PySem.ks_wpAny_isType_cls hD hDt ⟨rfl, ?_⟩
  refine PySem.ks_wpAny_call_super hD hDt he rfl (fun c e => by cases e) (PySem.W.looks_mroIn X hsub) fun h1 hs1 k1 => ?_
  have K1 : K.In h1 := X.keeps k1
  have he1 := k1 _ _ he
  have nAC : a ≠ C := fun z => by
    rw [z, hD] at he
    have := Option.some.inj he
    subst this
    cases hDt
  have I1 : PySem.W.InstAt h1 a ({ cls := .ref C, dict := none, data := .fields #[.ref t1, .none, .none, .none, .bool false, .none] } : Obj) C none := ⟨he1, rfl, rfl, trivial⟩
  have hI1 : PySem.W.Looks (model P w) h1 (isInstance (.ref a) (.type "ValueError")) true := I1.type.andThen (PySem.W.looks_subIn K1 hsubV)
  refine PySem.W.kxs_getMethod PySem.W.kxs_ValueError hs1 (PySem.W.looks_opaque K1 hopq) ((PySem.W.looks_clsIn K1 hcl).andThen .now) rfl K1 hal hI1 nAC (by decide) ?_
  have hu1 : (h1.push (PySem.W.kxs_mw "ValueError.__init__" a)).get? h1.objs.size = some (PySem.W.kxs_mw "ValueError.__init__" a) := Heap.get?_push_size _ rfl
  have kk : ∀ b o, h1.get? b = some o → (h1.push (PySem.W.kxs_mw "ValueError.__init__" a)).get? b = some o := fun b o e => Heap.get?_push_of_some _ e
  generalize h1.push (PySem.W.kxs_mw "ValueError.__init__" a) = h2 at hu1 kk ⊢
  refine PySem.W.kxs_callWith (i := "ValueError.__init__") (x := a) rfl (Calls.evalArgs_plain ?_)
  show wpAny _ _ (spliced ((false, eval (.Constant (.str msg) j p3) env) :: backTo p4 (starEach [] env))) _ _ _
  refine Calls.spliced_cons (Calls.Constant_str (Calls.spliced_nil ⟨hu1, ?_⟩))
  refine call_mw T (K1.keeps kk) hu1 (kk _ _ he1) (by rw [sizeLine_eq]; show 1 ≤ 16777216; decide) fun h' k e' => ?_
  exact hq h' _ (fun b o hb z => k b o hb (kk _ _ (k1 _ _ z))) e'
end
end Mn

/-! Ex2: an own exception class over ValueError whose __init__ says super().__init__(text); self.f = x. -/
namespace Mn
open PySem PySem.Spec PyProof.Rows L2 NdefX

/-- what the written part says of such an __init__ -/
structure ExI (K : PySem.W.Frag) (P : Program) (C f : Addr) (qual : Str) (params : Arguments) (body : List Stmt) (scope : Scope) (fd : FuncData) (fld : Str) : Prop where
  cls : OexC K C
  fn : ∃ (oc : Value) (od : Option Addr) (dV kV doc pm : Value) (an : Option Addr) (ct : Value) (osl : Array (Option Value)) (cc c0 : Addr) (occ : Value) (odc : Option Addr) (slc : Array (Option Value)) (oc0 : Value) (od0 : Option Addr) (vs : Array Value) (sl0 : Array (Option Value)) (file : Str) (tf : Tok),
    fd = PySem.W.fnX "__init__" qual params body scope [("__class__", cc)] dV kV doc pm an (.ref c0) ct ∧ K.lookup f = some ⟨oc, od, .func fd, osl⟩ ∧ PySem.W.codeIn K (.ref c0) qual = true ∧
    K.lookup cc = some ⟨occ, odc, .cell (some (.ref C)), slc⟩ ∧ K.lookup c0 = some ⟨oc0, od0, .fields vs, sl0⟩ ∧ vs[2]? = some (.str file tf) ∧ ((P.main.file : Str) == file) = true
  kin : PySem.W.findIn K (.ref C) fld = some none
  opq : PySem.W.nsIn K cStatics "thirdparty.any" = some none
  along : ∃ cd, PySem.W.clsIn K C = some cd ∧ PySem.W.alongIn K "__init__" ((cd.mro.dropWhile (· != .ref C)).drop 1) = some (some (.builtin "ValueError.__init__"))
  sub : PySem.W.mroIn K C (.ref C) = some true
  subV : PySem.W.subIn K (.ref C) (.type "ValueError") = some true
  top : (P.main.scope.names.lookup ("super" : Str)).isSome = false
/-- what it asks and gives -/
def spExI (C : Addr) (fld : Str) : Sp := fun vs H Q _ => ∃ (a : Addr) (v : V), vs = [.ref a, v] ∧ H a = some (exo a C none) ∧ ∀ dx, H dx = none → dx ≠ a → Q .non (upd (upd H dx (exd dx [(fld, v)])) a (exo a C (some dx)))
section
variable {P : Program} {w : World} {K : PySem.W.Frag} {mg : Str → Option Value} {base : Heap} {C f : Addr} {qual : Str} {params : Arguments} {body : List Stmt} {scope : Scope} {fd : FuncData} {sf x fld : Str}
theorem cell_here {cc : Addr} {A : Prop} {y : Str} {c : Addr} (e : ([("__class__", cc)] : List (Str × Addr)).lookup y = some c) : y = "__class__" ∧ c = cc := by
  simp only [List.lookup] at e
  split at e
  · rename_i h
    exact ⟨eq_of_beq h, (Option.some.inj e).symm⟩
  · cases e
theorem fn_exInit {CX : CXT} {msg : Str} {j : Nat} {p0 p1 p2 p3 p4 p5 p6 p7 p8 p9 : Pos} {pl : Sem Bool} (T : ExI K P C f qual params body scope fd fld) (S : NScope [sf, x, "__class__"] [sf, x] ["__class__"] scope)
    (hks : scope.names.lookup ("super" : Str) = some .globalImplicit) (hgs : mg "super" = none) (hpar : ∃ ar : Arg, (params.posonlyargs ++ params.args).head? = some ar ∧ ar.arg = sf)
    (hb : body = [.Expr (.Call (.Attribute (.Call (.Name "super" p0) [] [] p1) "__init__" p2) [.Constant (.str msg) j p3] [] p4) p5, .Assign [.Attribute (.Name sf p6) fld p7] (.Name x p8) p9])
    (hev : ∀ env : PySem.Env, eval (.Call (.Attribute (.Call (.Name "super" p0) [] [] p1) "__init__" p2) [.Constant (.str msg) j p3] [] p4) env = (do
      let ov ← attributeBase (.Call (.Name "super" p0) [] [] p1) "__init__" env (eval (.Call (.Name "super" p0) [] [] p1) env)
      standAt p2.atName
      let (f, first) ← holding [ov] (getMethod ov "__init__" pl)
      callWith p4 f first (backTo p4 (starEach [.Constant (.str msg) j p3] env)) []))
    (hd1 : (sf == ("__debug__" : Str)) = false) (hd2 : (sf == ("__classdict__" : Str)) = false) (hd3 : (x == ("__debug__" : Str)) = false) (hd4 : (x == ("__classdict__" : Str)) = false) :
    FnOk P w K mg base CX 1 f fd [sf, x] (spExI C fld) := by
  obtain ⟨oc, od, dV, kV, doc, pm, an, ct, osl, cc, c0, occ, odc, slc, oc0, od0, vs0, sl0, file, tf, rfl, lk, hcd, hcc, hc0, hv2, hfile⟩ := T.fn
  obtain ⟨cd, hcl, hal⟩ := T.along
  obtain ⟨ar, har, rfl⟩ := hpar
  refine ⟨fun vs H Q E h => by obtain ⟨a, v, rfl, _⟩ := h; rfl, fun A outer s H args us vs Q E hr e0 hbind r hsp => ?_⟩
  obtain ⟨a, v, rfl, ha, q⟩ := hsp
  have KX : K.In s.heap := e0.mod.kin.keeps fun b o e => (e0.bs b o e).1
  have lim : s.heap.NoLimit := e0.mod.nolimit.keeps fun b o e => (e0.bs b o e).1
  have hcK : s.heap.get? cc = some ⟨occ, odc, .cell (some (.ref C)), slc⟩ := KX _ _ hcc
  have bK : base.get? cc = some ⟨occ, odc, .cell (some (.ref C)), slc⟩ := e0.mod.kin _ _ hcc
  have CA : CellsAt [("__class__", cc)] ["__class__"] [none] s.heap H := by
    refine ⟨rfl, fun y c e => ?_, fun y z c e1 e2 => ?_, fun i y hy => ?_⟩
    · obtain ⟨_, rfl⟩ := cell_here (A := True) e
      exact ⟨(e0.bs _ _ bK).2, _, _, hcK, rfl⟩
    · rw [(cell_here (A := True) e1).1, (cell_here (A := True) e2).1]
    · cases i with
      | zero =>
        simp at hy
        subst hy
        exact ⟨cc, rfl, fun v hv => by simp at hv⟩
      | succ i => simp at hy
  obtain ⟨u0, u1, rfl, ru0, ru1⟩ : ∃ u0 u1, us = [u0, u1] ∧ RelV (.ref a) u0 ∧ RelV v u1 := by
    cases r with
    | cons p q => cases q with | cons p' q' => cases q'; exact ⟨_, _, rfl, p, p'⟩
  obtain rfl : u0 = Value.ref a := ru0
  have nd := S.nd
  have mself : (([ar.arg, x].zip [Value.ref a, u1]).reverse.lookup ar.arg) = some (Value.ref a) := zip_look (i := 0) (by
    simp only [List.nodup_cons, List.mem_cons, List.not_mem_nil, or_false, not_or] at nd ⊢
    exact ⟨nd.1.1, id, List.nodup_nil⟩) rfl rfl
  refine PySem.ks_codeAny_call_defAt hr.depth (KX _ _ lk) rfl lim (PySem.W.codeRec_of KX hcd) rfl hbind S.nocell (fun ⟨n, _⟩ hy => S.par n (List.of_mem_zip hy).1) (fun h₀ hns kp => ?_) S.co S.gen S.kind
  have I : Inv (ncx CX P w K mg base [ar.arg, x, "__class__"] ⟨"__init__", qual, params, body, scope, [("__class__", cc)], c0⟩ f A outer s H E) [] (startF [ar.arg, x, "__class__"] [.ref a, v] [none]) H { s with heap := h₀, toks := s.toks + ([ar.arg, x].zip [Value.ref a, u1]).length } :=
    inv_startN S hr.hd e0 rfl r CA hns kp
  obtain ⟨t1, hoe⟩ := exo_at I.hok ha
  obtain ⟨mb, hb1, hb2⟩ := I.mod.blt
  have nsG : h₀.Ns mainGlobals mg := I.mod.glob.keeps I.bk
  have nsB : h₀.Ns builtinsNs mb := hb1.keeps I.bk
  have hmb : mb "super" = some (.type "super") := (hb2 _ (by decide)).trans (by decide +kernel)
  have quiet := I.quiet
  have frk : scope.names.lookup ("__class__" : Str) = some .free := S.frk _ (by simp)
  have lself : scope.names.lookup ar.arg = some .local := S.par _ (by simp)
  have lx : scope.names.lookup x = some .local := S.par _ (by simp)
  have two : ∀ s2 : Shared, Inv (ncx CX P w K mg base [ar.arg, x, "__class__"] ⟨"__init__", qual, params, body, scope, [("__class__", cc)], c0⟩ f A outer s H E) [] (startF [ar.arg, x, "__class__"] [.ref a, v] [none]) H s2 →
      wpAny (model P w) (A.deeper (PySem.W.envX qual scope s.heap.objs.size f (.ref c0) [("__class__", cc)])) (execs [.Assign [.Attribute (.Name ar.arg p6) fld p7] (.Name x p8) p9] (PySem.W.envX qual scope s.heap.objs.size f (.ref c0) [("__class__", cc)]))
        (fun f s' => CR CX outer P w H s Q E (.ok (.ret (match f with | .ret v => v | _ => .none))) s')
        (fun e s' => wpAny (model P w) (A.deeper (PySem.W.envX qual scope s.heap.objs.size f (.ref c0) [("__class__", cc)])) (leaving (PySem.W.envX qual scope s.heap.objs.size f (.ref c0) [("__class__", cc)]) e) (fun _ s'' => CR CX outer P w H s Q E (.error e) s'') (fun e' s'' => CR CX outer P w H s Q E (.error e') s'') s') s2 := fun s2 I2 => by
    have ps := pss_one (X := ncx CX P w K mg base [ar.arg, x, "__class__"] ⟨"__init__", qual, params, body, scope, [("__class__", cc)], c0⟩ f A outer s H E) (ps_ost (pos := p9) (p' := p7) (f := fld) (pe_var (pos := p6) (i := 0) rfl (.inl lself) hd1 hd2) (pe_var (pos := p8) (i := 1) rfl (.inl lx) hd3 hd4))
    refine wpAny_mono (ps.run [] s2 _ H { nx := fun _ H' => Q .non H', rt := Q } I2 ⟨v, rfl, .ref a, rfl, a, C, rfl, T.cls, T.kin, .inl ⟨ha, fun dx h1 h2 => q dx h1 h2⟩⟩) (fun fl s' hs => ?_) fun e s' hs => hs
    cases fl with
    | ret u =>
      obtain ⟨v', σ', H', J, rv, q'⟩ := hs
      exact ⟨v', H', J.os, J.bare, J.base, J.hok, rv, q'⟩
    | next =>
      obtain ⟨σ', H', J, q'⟩ := hs
      exact ⟨.non, H', J.os, J.bare, J.base, J.hok, rfl, q'⟩
    | brk =>
      obtain ⟨_, _, _, q'⟩ := hs
      exact False.elim q'
    | cont =>
      obtain ⟨_, _, _, q'⟩ := hs
      exact False.elim q'
  have kin0 : K.In h₀ := I.kIn
  have ext : ∀ (h' : Heap) (t' : Nat), (∀ b o, b ≠ a → h₀.get? b = some o → h'.get? b = some o) → (∃ t2 : Addr, h'.get? a = some ({ cls := .ref C, dict := none, data := .fields #[.ref t2, .none, .none, .none, .bool false, .none] } : Obj)) →
      wpAny (model P w) (A.deeper (PySem.W.envX qual scope s.heap.objs.size f (.ref c0) [("__class__", cc)])) (execs [.Assign [.Attribute (.Name ar.arg p6) fld p7] (.Name x p8) p9] (PySem.W.envX qual scope s.heap.objs.size f (.ref c0) [("__class__", cc)]))
        (fun f s' => CR CX outer P w H s Q E (.ok (.ret (match f with | .ret v => v | _ => .none))) s')
        (fun e s' => wpAny (model P w) (A.deeper (PySem.W.envX qual scope s.heap.objs.size f (.ref c0) [("__class__", cc)])) (leaving (PySem.W.envX qual scope s.heap.objs.size f (.ref c0) [("__class__", cc)]) e) (fun _ s'' => CR CX outer P w H s Q E (.error e) s'') (fun e' s'' => CR CX outer P w H s Q E (.error e') s'') s') ⟨h', s.gens, s.drawn, t', s.os⟩ := fun h' t' k e' => by
    obtain ⟨t2, e'⟩ := e'
    have J := I.write (t' := t') (h' := h') (x := a) (e := a) (o := exo a C none) (by rw [ha]; exact True.intro) (.inl rfl) k ⟨_, e'⟩ (exo_ok e')
    have eu : upd H a (exo a C none) = H := by
      funext b
      by_cases hb : b = a
      · rw [hb, upd_same, ha]
      · rw [upd_ne hb]
    rw [eu] at J
    exact two _ J
  generalize henv : PySem.W.envX qual scope s.heap.objs.size f (.ref c0) [("__class__", cc)] = env at ext
  subst hb
  have e2 : callEnv (PySem.W.fnX "__init__" qual params [.Expr (.Call (.Attribute (.Call (.Name "super" p0) [] [] p1) "__init__" p2) [.Constant (.str msg) j p3] [] p4) p5, .Assign [.Attribute (.Name ar.arg p6) fld p7] (.Name x p8) p9] scope [("__class__", cc)] dV kV doc pm an (.ref c0) ct) s.heap.objs.size f = env := henv
  rw [e2]
  have k1 : env.scope = scope := by rw [← henv]
  have k2 : env.func = some f := by rw [← henv]
  have k3 : env.code = .ref c0 := by rw [← henv]
  have k4 : env.globals = mainGlobals := by rw [← henv]
  have k5 : env.builtins = builtinsNs := by rw [← henv]
  have k6 : env.cells = [(("__class__" : Str), cc)] := by rw [← henv]
  have k7 : env.locals = s.heap.objs.size := by rw [← henv]
  have k8 : interactive env = false := by rw [← henv]; exact quiet
  have k9 : ∀ y, env.kindOf y = scope.names.lookup y := fun y => by rw [← henv]; rfl
  refine PySem.ks_wpAt_execs_cons (PySem.ks_wpAt_Expr_any (super_init (f := f) (ar := ar) (a := a) (C := C) (K := K) (c0 := c0) (cc := cc) (cd := cd) (hev env) T.cls kin0 (by rw [k1]; exact S.kind) ((k9 _).trans hks) ((k9 _).trans frk) k2 (kp _ _ (KX _ _ lk)) rfl har k3 (kp _ _ (KX _ _ hc0)) rfl hv2 hfile T.top
    (by rw [k4]; exact nsG) hgs (by rw [k5]; exact nsB) hmb (by rw [k6]; rfl) ⟨_, kp _ _ hcK, rfl⟩ ((k9 _).trans lself) (by rw [k7]; exact hns) mself hcl hal T.opq T.sub T.subV hoe fun h' t' k e' => ?_) (hi := k8))
  exact wpAt_of_wpAny (ext h' t' k e')
end
end Mn

/-! Ex3: an own exception made with keywords: type.__call__ on such a class. -/
namespace Mn
open PySem PySem.Spec PyProof.Rows L2 PySem.HandSPX
section
variable {M : Model} {A : Around} {E : Value → Shared → Prop} {h : Heap} {g : Array GenState} {d : Drawn} {t : Nat} {os : OsState}
variable {nm q : Str} {C N : Addr} {bs bm bmB : List Value} {hdct : Bool} {sn : List Str} {sub : List Value} {ab : Bool} {col : Option Bool} {dd : Option Addr} {k0 k1 k2 k3 k5 : Option Value} {B newId initId : String}
theorem check_new_kw (F : ExcBaseFacts B newId initId bmB) (hT : ∀ X : String, bm.contains (.type X) = bmB.contains (.type X)) {rest : List Value} {kw : List (Str × Value)} {Q : Unit → Shared → Prop}
    (hC : h.get? C = some (excClassObj nm q C N bs bm hdct sn sub ab col dd k0 k1 k2 k3 k5 newId)) (hq : Q () ⟨h, g, d, t, os⟩) : wpAny M A (checkBuiltinCall newId ⟨.ref C :: rest, kw⟩) Q E ⟨h, g, d, t, os⟩ := by
  have hcont : (Value.ref C :: bm).contains (.type B) = true := by rw [List.contains_cons, hT, F.hasB, Bool.or_true]
  have hstar := F.noStar
  simp only [checkBuiltinCall, F.newKind, F.newSplit, F.newRow]
  repeat (first | refine wpAny_loadPart_at hC ?_ | (refine wpAny_isSubtype_exc hC ?_; rw [hcont]) | refine wpAny_staticBase_exc hC ?_ | refine wpAny_madeBy_exc hC ?_ | simp only [bne_self_eq_false, Bool.false_eq_true, if_false] | wp_step)
  exact hq
end
section
variable {prog : Program} {w : World} {A : Around} {E : Value → Shared → Prop} {R : Result → Shared → Prop} {h : Heap} {g : Array GenState} {d : Drawn} {t : Nat} {os : OsState}
variable {nm q : Str} {C N : Addr} {bs bm bmB : List Value} {hdct : Bool} {sn : List Str} {sub : List Value} {ab : Bool} {col : Option Bool} {dd : Option Addr} {k0 k1 k2 k3 k5 : Option Value} {B newId initId : String}
theorem new_kw (F : ExcBaseFacts B newId initId bmB) (hT : ∀ X : String, bm.contains (.type X) = bmB.contains (.type X)) {rest : List Value} {kw : List (Str × Value)}
    (hC : h.get? C = some (excClassObj nm q C N bs bm hdct sn sub ab col dd k0 k1 k2 k3 k5 newId))
    (hq : R (.ok (.ret (.ref (h.objs.size + 1)))) ⟨(h.push { cls := .type "tuple", data := .seq rest.toArray }).push
      { cls := .ref C, data := .fields #[.ref h.objs.size, .none, .none, .none, .bool false, .none] }, g, d, t, os⟩) (hrest : rest.length ≤ sizeLine) :
    codeAny (model prog w) A (.builtin newId ⟨.ref C :: rest, kw⟩) R ⟨h, g, d, t, os⟩ := by
  have hends := F.ends
  have hcB : (Value.ref C :: bm).contains (.type B) = true := by rw [List.contains_cons, hT, F.hasB, Bool.or_true]
  have hcA : (Value.ref C :: bm).contains (.type "AttributeError") = false := by rw [List.contains_cons, hT, F.noAttr]; rfl
  have hcN : (Value.ref C :: bm).contains (.type "NameError") = false := by rw [List.contains_cons, hT, F.noName]; rfl
  refine codeAny_builtinAt F.entry ?_
  unfold Builtin.«BaseException.__new__»
  refine PySem.wpAt_bind ?_
  show PySem.wpAt _ _ _ (stack >>= _) _ _ _
  refine PySem.wpAt_bind (PySem.wpAt_stack fun p below => PySem.wpAt_of_wpAny ?_)
  wp_walk
  refine PySem.wpAt_of_wpAny ?_
  rw [F.owner]
  repeat (first | with_reducible refine wpAny_madeHere_exc F.canon hC ?_ | with_reducible refine wpAny_loadPart_at hC ?_ | (with_reducible refine wpAny_isSubtype_exc hC ?_; first | rw [hcB] | rw [hcA] | rw [hcN]) | wp_step)
  show R _ _
  rw [Heap.size_push]
  exact hq
theorem type_call_kw (F : ExcBaseFacts B newId initId bmB) (hT : ∀ X : String, bm.contains (.type X) = bmB.contains (.type X)) {rest : List Value} {kw : List (Str × Value)} {fI : Addr} {Q : Fin → Shared → Prop}
    (hC : h.get? C = some (excClassObj nm q C N bs bm hdct sn sub ab col dd k0 k1 k2 k3 k5 newId))
    (hi : W.Looks (model prog w) h (typeLookup (.ref C) "__init__") (some (.ref fI))) (hb : ∀ self, W.Looks (model prog w) h (bindSpecial (.ref fI) self) (.ref fI, [self])) (hrest : rest.length ≤ sizeLine)
    (hq : codeAny (model prog w) A (.call (.ref fI) ⟨.ref (h.objs.size + 1) :: rest, kw⟩)
      (fun r s' => match r with | .ok (.ret v) => v = .none ∧ Q (.done (.ret (.ref (h.objs.size + 1)))) s' | .ok _ => False | .error e => E e s')
      ⟨(h.push (W.kdv_tup rest)).push (excO C h.objs.size), g, d, t, os⟩) :
    wpAny (model prog w) A (Builtin.«type.__call__» ⟨.ref C :: rest, kw⟩) Q E ⟨h, g, d, t, os⟩ := by
  repeat (first | with_reducible refine wpAny_loadPart_at hC ?_ | with_reducible refine wpAny_madeBy_exc hC ?_ | wp_step)
  refine codeAny_call_builtin_code (Code.quiet_builtin _ F.quiet) (check_new_kw F hT hC ?_)
  refine new_kw F hT hC ?_ hrest
  show wpAny _ _ _ _ _ _
  have k : ∀ b o, h.get? b = some o → ((h.push (W.kdv_tup rest)).push (excO C h.objs.size)).get? b = some o := fun b o e => Heap.get?_push_of_some _ (Heap.get?_push_of_some _ e)
  have hC₁ := k _ _ hC
  have hget : ((h.push (W.kdv_tup rest)).push (excO C h.objs.size)).get? (h.objs.size + 1) = some (excO C h.objs.size) := by heap_get
  have hcC : (Value.ref C :: bm).contains (.ref C) = true := by simp
  have i1 := hi.keeps k
  have b1 := (hb (.ref (h.objs.size + 1))).keeps k
  unfold isInstance
  repeat (first | with_reducible refine wpAny_loadPart_at hget ?_ | (with_reducible refine wpAny_isSubtype_exc hC₁ ?_; rw [hcC]) | wp_step)
  show wpAny _ _ (typeLookup (.ref C) _) _ _ _
  refine i1.at ?_
  refine wpAny_holding (wpAny_bind (b1.at ?_))
  refine wpAny_bind (wpAny_call (codeAny_mono hq fun r s' z => ?_))
  rcases r with e | (v | _ | _ | _) <;> first | exact z | exact z.elim | skip
  obtain ⟨rfl, z⟩ := z
  first
    | exact wpAny_pure (wpAny_pure z)
    | (wp_walk; exact z)
theorem call_kw (F : ExcBaseFacts B newId initId bmB) (hT : ∀ X : String, bm.contains (.type X) = bmB.contains (.type X)) {rest : List Value} {kw : List (Str × Value)} {fI : Addr}
    (hC : h.get? C = some (excClassObj nm q C N bs bm hdct sn sub ab col dd k0 k1 k2 k3 k5 newId))
    (hi : W.Looks (model prog w) h (typeLookup (.ref C) "__init__") (some (.ref fI))) (hb : ∀ self, W.Looks (model prog w) h (bindSpecial (.ref fI) self) (.ref fI, [self])) (hrest : rest.length ≤ sizeLine)
    (hq : codeAny (model prog w) (A.under (.builtin "type.__call__" ⟨.ref C :: rest, kw⟩)) (.call (.ref fI) ⟨.ref (h.objs.size + 1) :: rest, kw⟩) (W.InitBack (h.objs.size + 1) R)
      ⟨(h.push (W.kdv_tup rest)).push (excO C h.objs.size), g, d, t, os⟩) :
    codeAny (model prog w) A (.call (.ref C) ⟨rest, kw⟩) R ⟨h, g, d, t, os⟩ := by
  have f1 := tc_lookup
  have f2 := tc_bind (.ref C)
  have hTy : (⟨h, g, d, t, os⟩ : Shared).TypeIs (.ref C) "type" := ⟨_, hC, rfl⟩
  refine codeAny_of_tree ?_
  show wpAny _ _ (callAny (.ref C) _) _ _ _
  repeat (any_goals (first | assumption | with_reducible refine wpAny_loadPart_at hC ?_ | wp_step))
  refine ⟨rfl, ?_⟩
  refine codeAny_call_builtin_at (Code.quiet_builtin _ (by decide +kernel)) entry_typeCall (wpAny_check_type_call_sub hC (type_call_kw F hT hC hi hb hrest ?_))
  refine codeAny_mono hq fun r s' z => ?_
  rcases r with e | (v | _ | _ | _) <;> exact z
end
end Mn

/-! Ex4: errors as values: made, with a field or without, by position or by name; their fields read. -/
namespace Mn
open PySem PySem.Spec PyProof.Rows L2

/-- a class of errors with an own __init__ that keeps its value -/
structure ExK (P : Program) (w : World) (K : PySem.W.Frag) (mg : Str → Option Value) (base : Heap) (c : Cfg) (x : Str) (k : Nat) (fld : Str) : Prop where
  ex : ∃ (C fI : Addr) (fd : FuncData) (ps : List Str), OexC K C ∧ PySem.W.findIn K (.ref C) "__init__" = some (some (.ref fI)) ∧ PySem.W.typeIn K (.ref fI) = some (.type "function") ∧ FnOk P w K mg base (L2.CX P w) 1 fI fd ps (spExI C fld) ∧
    ps.length = 2 ∧ (∀ u v : Value, bindArgs fd ⟨[u, v], []⟩ = pure (ps.zip [u, v])) ∧ (∀ u v : Value, bindArgs fd ⟨[u], [(fld, v)]⟩ = pure (ps.zip [u, v])) ∧ mg x = some (.ref C) ∧ c.cls k = some (C, [fld])
section
variable {X : Cx} {c : Cfg} {E : XK} {κ : Kd} {k : Nat} {x fld : Str} {e : Expr} {f : EvF} {p pos : Pos}
theorem run_exF {C fI : Addr} {fd : FuncData} {ps : List Str} {pins : List (Addr × Obj)} {σ : L2.St} {H : Hp} {s : Shared} {us : List Value} {kw : List (Str × Value)} {v : V} {u : Value} {Q : VK} (T : OexC X.K C) (iC : PySem.W.findIn X.K (.ref C) "__init__" = some (some (.ref fI))) (tI : PySem.W.typeIn X.K (.ref fI) = some (.type "function"))
    (F1 : FnOk X.prog X.w X.K X.mg X.base (L2.CX X.prog X.w) 1 fI fd ps (spExI C fld)) (hr : Room 2 X.A) (hx : Passes (L2.CX X.prog X.w) X E) (hb : ∀ self : Value, bindArgs fd ⟨self :: us, kw⟩ = pure (ps.zip [self, u])) (hus : us.length ≤ 2)
    (I : Inv X pins σ H s) (rv : RelV v u) (h : ∀ a d, H a = none → H d = none → d ≠ a → Q (.ref a) (upd (upd H a (exo a C (some d))) d (.xd [(fld, v)]))) : wpAny (model X.prog X.w) X.A (call (.ref C) us kw) (EP X pins σ Q) X.xe s := by
  obtain ⟨nm, q, N, bs, bm, sn, sub, ab, col, dd, k0, k1, k2, k3, k5, hC, hbm⟩ := T.cls
  obtain ⟨hp, g, dr, tk, os⟩ := s
  have hsz : hp.objs.size ≤ hp.objs.size + 1 := Nat.le_succ _
  have hn : H (hp.objs.size + 1) = none := I.hok.fresh hsz
  have kk : ∀ b o, hp.get? b = some o → ((hp.push (PySem.W.kdv_tup us)).push (PySem.HandSPX.excO C hp.objs.size)).get? b = some o := fun b o e => Heap.get?_push_of_some _ (Heap.get?_push_of_some _ e)
  have hget : ((hp.push (PySem.W.kdv_tup us)).push (PySem.HandSPX.excO C hp.objs.size)).get? (hp.objs.size + 1) = some (PySem.HandSPX.excO C hp.objs.size) := by heap_get
  have I2 : Inv X pins σ (upd H (hp.objs.size + 1) (exo (hp.objs.size + 1) C none)) ⟨(hp.push (PySem.W.kdv_tup us)).push (PySem.HandSPX.excO C hp.objs.size), g, dr, tk, os⟩ :=
    I.laid (t' := tk) (a := hp.objs.size + 1) (o := exo (hp.objs.size + 1) C none) (h' := (hp.push (PySem.W.kdv_tup us)).push (PySem.HandSPX.excO C hp.objs.size)) kk hsz (exo_ok hget)
  have r2 : Vals [V.ref (hp.objs.size + 1), v] [Value.ref (hp.objs.size + 1), u] := .cons rfl (.cons rv .nil)
  have hsp : spExI C fld [V.ref (hp.objs.size + 1), v] (upd H (hp.objs.size + 1) (exo (hp.objs.size + 1) C none)) (fun v' H2 => v' = .non ∧ ∃ d, H d = none ∧ d ≠ hp.objs.size + 1 ∧ H2 = upd (upd (upd H (hp.objs.size + 1) (exo (hp.objs.size + 1) C none)) d (exd d [(fld, v)])) (hp.objs.size + 1) (exo (hp.objs.size + 1) C (some d))) E :=
    ⟨_, _, rfl, upd_same, fun dx hd ne => ⟨rfl, dx, by rw [upd_ne ne] at hd; exact hd, ne, rfl⟩⟩
  have hz : us.length ≤ sizeLine := by
    rw [sizeLine_eq]
    omega
  refine wpAny_call (call_kw F.excBase_ValueError (fun Y => PySem.HandSPX.refsVE_contains Y bm hbm) (I.kIn _ _ hC) (PySem.W.looks_findIn I.kIn iC) (fun self => PySem.W.bind_fn I.kIn self tI) hz
    (codeAny_mono (F1.run _ X.stack _ _ ⟨Value.ref (hp.objs.size + 1) :: us, kw⟩ [Value.ref (hp.objs.size + 1), u] _ _ E (hr.make C us kw) (I2.env0.make C us kw) (BindsTo.of_looks fun M => .of_pure (hb _)) r2 hsp) fun r s' hq' => ?_))
  cases r with
  | error er => exact hx pins σ _ _ er s' I2 hq'
  | ok fl =>
    cases fl with
    | ret u' =>
      obtain ⟨v', H2, os2, bare2, un2, hok2, rv', ev, d, hd, ne, eH⟩ := hq'
      subst ev
      subst eH
      refine ⟨rv', ?_⟩
      have I3 := I2.call' (s' := s') (ch := []) os2 un2 hok2 bare2 (fun b z => absurd z (by simp))
      have ed : (upd (upd (upd H (hp.objs.size + 1) (exo (hp.objs.size + 1) C none)) d (exd d [(fld, v)])) (hp.objs.size + 1) (exo (hp.objs.size + 1) C (some d))) d = some (exd d [(fld, v)]) := by rw [upd_ne ne, upd_same]
      obtain ⟨mA, hns, rel⟩ := exd_at I3.hok ed
      obtain ⟨h2, g2, d2, t2, o2⟩ := s'
      have J := I3.write (t' := t2) (h' := h2) (x := d) (e := d) (o := .xd [(fld, v)]) (by rw [ed]; exact True.intro) (.inl rfl) (fun b u _ z => z) (by obtain ⟨o, _, _, e', _⟩ := hns; exact ⟨o, e'⟩) ⟨mA, hns, rel⟩
      refine ⟨.ref (hp.objs.size + 1), _, J, rfl, ?_⟩
      have eq : upd (upd (upd (upd H (hp.objs.size + 1) (exo (hp.objs.size + 1) C none)) d (exd d [(fld, v)])) (hp.objs.size + 1) (exo (hp.objs.size + 1) C (some d))) d (.xd [(fld, v)]) = upd (upd H (hp.objs.size + 1) (exo (hp.objs.size + 1) C (some d))) d (.xd [(fld, v)]) := by
        funext b
        by_cases h1 : b = d
        · rw [h1, upd_same, upd_same]
        · rw [upd_ne h1, upd_ne h1]
          by_cases h2 : b = hp.objs.size + 1
          · rw [h2, upd_same, upd_same]
          · rw [upd_ne h2, upd_ne h1, upd_ne h2, upd_ne h2]
      rw [eq]
      exact h _ d hn hd ne
    | next => exact False.elim hq'
    | brk => exact False.elim hq'
    | cont => exact False.elim hq'
/-- C(e), C(f = e) -/
def eExF (k : Nat) (f : EvF) : EvF := fun ρ => (f ρ).bnd fun d => M.ret (.exc k [d])
theorem exF_next {C : Addr} {H F : Hp} {s : DS} {a d : Addr} {v : V} {y : D} (wf : Wf c H F s) (hk : c.cls k = some (C, [fld])) (ha : H a = none) (hd : H d = none) (ne : d ≠ a) (r : Rep c F v y) :
    ∃ F', Next c H F (upd (upd H a (exo a C (some d))) d (.xd [(fld, v)])) F' s ∧ Rep c F' (.ref a) (.exc k [y]) := by
  have n1 : Next c H F (upd H a (exo a C (some d))) (upd F a (exo a C (some d))) s := Next.laidK wf ha
  have n2 := Next.laidK (p := d) (o := .xd [(fld, v)]) n1.wf (by rw [upd_ne ne]; exact hd)
  refine ⟨_, n1.trans n2, ?_⟩
  have fa : (upd (upd F a (exo a C (some d))) d (HO.xd [(fld, v)])) a = some (exo a C (some d)) := by rw [upd_ne (Ne.symm ne), upd_same]
  refine .exc (C := C) (fs := [(fld, v)]) (d := some d) fa (fun h z => ?_) hk (.inr ⟨d, rfl, upd_same⟩) (.cons (r.mono (n1.leF.trans n2.leF)) .nil)
  obtain ⟨t1, z⟩ := z
  exact ⟨_, z, ⟨rfl, rfl⟩, _, rfl⟩
theorem exF_post {C : Addr} {H F : Hp} {s : DS} {a d : Addr} {v : V} {y : D} {Q : VK} (wf : Wf c H F s) (hk : c.cls k = some (C, [fld])) (ha : H a = none) (hd : H d = none) (ne : d ≠ a) (r : Rep c F v y) (p : Post c E κ H F Q (M.ret (.exc k [y]) s)) : Q (.ref a) (upd (upd H a (exo a C (some d))) d (.xd [(fld, v)])) := by
  obtain ⟨F', n, r'⟩ := exF_next wf hk ha hd ne r
  exact p _ _ _ n (up_rep r')
theorem de_exF (T : ExK X.prog X.w X.K X.mg X.base c x k fld) (hr : Room 2 X.A) (hg : Gl X x) (hx : Passes (L2.CX X.prog X.w) X E) (ha : PE X e (tK c E .val f)) (hdb : (x == ("__debug__" : Str)) = false) (he : starEach [e] X.env = (false, eval e X.env) :: starEach [] X.env) :
    PE X (.Call (.Name x p) [e] [] pos) (tK c E κ (eExF k f)) := by
  obtain ⟨C, fI, fd, ps, O, iC, tI, F1, hl, b1, b2, hm, hc⟩ := T.ex
  refine ⟨fun pins s σ H Q I h => ?_⟩
  refine wpAny_Call_Name_kw (ld_glob I hg hm ?_ hdb)
  refine PySem.W.callWith_K (h₀ := X.base) I.ok.mod.kin O.kC ?_ he (by rfl)
  rw [he]
  show wpAny _ _ (spliced ((false, eval e X.env) :: backTo pos (starEach [] X.env))) _ _ s
  obtain ⟨F, ρ, d0, sim, p⟩ := h
  refine Calls.spliced_cons (thn (ha.run pins s σ H _ I ⟨F, ρ, d0, sim, Post.bnd (κ' := .val) p⟩) fun u s1 ⟨v, H1, I1, r1, y, s2, F1', n1, ry, p1⟩ => ?_)
  refine Calls.spliced_nil ⟨I1.kIn, ?_⟩
  show wpAny _ _ (call (.ref C) [u]) _ _ _
  exact run_exF O iC tI F1 hr hx (fun self => b1 self u) (by simp) I1 r1 fun a d ha hd ne => exF_post n1.wf hc ha hd ne ry p1
theorem de_exFk {kp : Pos} (T : ExK X.prog X.w X.K X.mg X.base c x k fld) (hr : Room 2 X.A) (hg : Gl X x) (hx : Passes (L2.CX X.prog X.w) X E) (ha : PE X e (tK c E .val f)) (hdb : (x == ("__debug__" : Str)) = false)
    (hall : (backToKw pos (keywordEach [⟨some fld, e, kp⟩] X.env)).all (·.1.isSome) = true) (hks : (backToKw pos (keywordEach [⟨some fld, e, kp⟩] X.env)).filterMap (·.1) = [fld])
    (hpl : ((backTo pos (starEach [] X.env)).any (·.1) || (backToKw pos (keywordEach [⟨some fld, e, kp⟩] X.env)).any (·.1.isNone)) = false) :
    PE X (.Call (.Name x p) [] [⟨some fld, e, kp⟩] pos) (tK c E κ (eExF k f)) := by
  obtain ⟨C, fI, fd, ps, O, iC, tI, F1, hl, b1, b2, hm, hc⟩ := T.ex
  refine ⟨fun pins s σ H Q I h => ?_⟩
  refine wpAny_Call_Name_kw (ld_glob I hg hm ?_ hdb)
  obtain ⟨F, ρ, d0, sim, p⟩ := h
  refine PySem.W.callWith_KW0 (h₀ := X.base) I.ok.mod.kin O.kC hall (thn ((pk_cons ha pk_nil).run pos pins s σ H (fun xs H1 => ∃ v, xs = [v] ∧ ∃ y s2 F1, Next c H F H1 F1 s2 ∧ RepK c .val H F1 H1 v y ∧ Post c E κ H1 F1 Q (M.ret (.exc k [y]) s2)) I ⟨F, ρ, d0, sim, (Post.bnd (κ' := .val) p).mono fun v H1 z => ⟨v, rfl, z⟩⟩) fun ws s1 ⟨zs, H1, I1, rz, v, ev, y, s2, F1', n1, ry, p1⟩ => ⟨I1.kIn, ?_⟩) hpl
  subst ev
  rw [hks]
  cases rz with
  | @cons _ u _ _ rv rz =>
    cases rz
    show wpAny _ _ (call (.ref C) [] [(fld, u)]) _ _ _
    exact run_exF O iC tI F1 hr hx (fun self => b2 self u) (by simp) I1 rv fun a d ha hd ne => exF_post n1.wf hc ha hd ne ry p1
/-- a class of errors without an own __init__ -/
structure ExP (K : PySem.W.Frag) (mg : Str → Option Value) (c : Cfg) (x : Str) (k : Nat) : Prop where
  ex : ∃ (C : Addr) (bmB : List Value) (B newId initId : String), ExcBaseFacts B newId initId bmB ∧ PySem.W.excIn K C bmB newId = true ∧ mg x = some (.ref C) ∧ PySem.W.keepIn K (.ref C) = true ∧ c.cls k = some (C, [])
def eExP (k : Nat) (f : EvF) : EvF := fun ρ => (f ρ).bnd fun _ => M.ret (.exc k [])
theorem de_exP (T : ExP X.K X.mg c x k) (hg : Gl X x) (ha : PE X e (tK c E .bor f)) (hdb : (x == ("__debug__" : Str)) = false) (he : starEach [e] X.env = (false, eval e X.env) :: starEach [] X.env) :
    PE X (.Call (.Name x p) [e] [] pos) (tK c E κ (eExP k f)) := by
  obtain ⟨C, bmB, B, newId, initId, F0, hq, hm, hkp, hc⟩ := T.ex
  refine (pe_exc1 F0 hq hm hkp hg ha he hdb).imp fun σ H Q ⟨F, ρ, s, sim, p⟩ => ⟨F, ρ, s, sim, (Post.bnd (κ' := .bor) p).mono fun v H1 ⟨y, s1, F1, n1, r1, p1⟩ a ha => ?_⟩
  refine p1 _ _ _ (Next.laidK n1.wf ha) (up_rep (.exc (C := C) (fs := []) (d := none) upd_same (fun h z => ?_) hc (.inl ⟨rfl, rfl⟩) .nil))
  obtain ⟨oe, vs, e1, e2, e3, _⟩ := z
  exact ⟨oe, e1, e2, vs, e3⟩
/-- e.f, e an error -/
def fldOf (nm : Nat → List Str) (n : Str) : D → Option D
  | .exc k ds => ((nm k).zip ds).lookup n
  | _ => none
def eFld (nm : Nat → List Str) (n : Str) (f : EvF) : EvF := fun ρ => (f ρ).bnd fun d => lift (fldOf nm n d)
theorem reps_lookup {F : Hp} {n : Str} : ∀ {fs : List (Str × V)} {ds : List D} {d : D}, Reps c F (fs.map (·.2)) ds → ((fs.map (·.1)).zip ds).lookup n = some d → ∃ v, fs.lookup n = some v ∧ Rep c F v d
  | [], _, _, _, h => by simp at h
  | (m, v) :: fs, ds, d, r, h => by
    cases r with
    | cons r1 r2 =>
      simp only [List.map_cons, List.zip_cons_cons, List.lookup_cons] at h ⊢
      split at h
      · cases h; exact ⟨_, rfl, r1⟩
      · exact reps_lookup r2 h
theorem de_fld {n : Str} {nm : Nat → List Str} (hnm : ∀ k C fs, c.cls k = some (C, fs) → nm k = fs) (hT : ∀ k C fs, c.cls k = some (C, fs) → n ∈ fs → XfC X.K C ∧ PySem.W.findIn X.K (.ref C) n = some none) (he : PE X e (tK c E .val f)) (hb : attributeBase e n X.env (eval e X.env) = eval e X.env) :
    PE X (.Attribute e n pos) (tK c E .val (eFld nm n f)) := by
  refine ⟨fun pins s σ H Q I h => ?_⟩
  obtain ⟨F, ρ, d0, sim, p⟩ := h
  refine attr_of hb (thn (he.run pins s σ H _ I ⟨F, ρ, d0, sim, Post.bnd (κ' := .val) p⟩) fun u s1 ⟨v, H1, I1, r1, y, s2, F1, n1, ry, p1⟩ => ?_)
  obtain ⟨d, ed, q⟩ := p1.end
  have ry' : Rep c F1 v y := ry
  unfold fldOf at ed
  split at ed
  · rename_i k ds
    cases ry' with
    | @exc a C _ fs _ dd φ fa hφ hc hd rs =>
      obtain rfl : u = Value.ref a := r1
      rw [hnm _ _ _ hc] at ed
      obtain ⟨v, l, rv⟩ := reps_lookup rs ed
      have mem : n ∈ fs.map (·.1) := by
        clear rs hc hd ed
        induction fs with
        | nil => cases l
        | cons p r ih =>
          obtain ⟨m, z⟩ := p
          rw [List.map_cons]
          simp only [List.lookup_cons] at l
          split at l
          · rename_i e'
            rw [eq_of_beq e']; exact List.mem_cons_self ..
          · exact List.mem_cons_of_mem _ (ih l)
      obtain ⟨T, hno⟩ := hT _ _ _ hc mem
      rcases hd with ⟨e1, _⟩ | ⟨dx, e1, e2⟩
      · subst e1; cases l
      subst e1
      have hx : ObjOk X.prog X.w H1 s1.heap dx (.xd fs) := I1.hok dx _ (n1.wf.sub _ _ e2)
      obtain ⟨mA, hns, hr⟩ := hx
      obtain ⟨od, ho, hl⟩ := lookIn_ns hns
      obtain ⟨u, hu, ru⟩ := RelO.some_of (v := v) (o := mA n) (by rw [← l]; exact hr n)
      have x : ObjOk X.prog X.w H1 s1.heap a (.ext φ) := I1.hok a _ (n1.wf.sub _ _ fa)
      obtain ⟨oe, ha, hz, vs, hv⟩ := hφ _ x.1
      have J : PySem.W.InstAt s1.heap a oe C (some od) := ⟨ha, hz.1, by unfold PySem.W.notCls; rw [hv] <;> rfl, by rw [hz.2]; exact ho⟩
      exact HandSPX.exc_get I1.kIn J T.ga T.gg T.exC (PySem.W.findObj_own T.hdC hno rfl (by rw [hl, hu])) (handed_of ru) ⟨v, H1, I1.tok _, ru, q _ _ _ (Next.refl n1.wf) rv⟩
  · cases ed
end
end Mn

/-! Ex5: repr([e, ..]). -/
namespace Mn
open PySem PySem.Spec PyProof.Rows L2

def keyR : L2.Key → PyData
  | .inl i => .int i
  | .inr x => .str x
mutual
def toR : D → Option PyData
  | .non => some .none
  | .bl b => some (.bool b)
  | .int i => some (.int i)
  | .str x => some (.str x)
  | .lst ds => match toRs ds with
    | some ps => some (.list ps)
    | none => none
  | .tup ds => match toRs ds with
    | some ps => some (.tuple ps)
    | none => none
  | .dK es => match toRk es with
    | some kvs => some (.dict kvs)
    | none => none
  | .dT _ => none
  | .ins _ _ => none
  | .exc _ _ => none
  | .clo => none
  | .drw => none
  | .scr _ => none
def toRs : List D → Option (List PyData)
  | [] => some []
  | d :: r => match toR d with
    | some p => match toRs r with
      | some ps => some (p :: ps)
      | none => none
    | none => none
def toRk : List (L2.Key × D) → Option (List (PyData × PyData))
  | [] => some []
  | (k, d) :: r => match toR d with
    | some p => match toRk r with
      | some ps => some ((keyR k, p) :: ps)
      | none => none
    | none => none
end
mutual
/-- no list within -/
def nl : PyData → Bool
  | .none => true
  | .bool _ => true
  | .int _ => true
  | .str _ => true
  | .list _ => false
  | .tuple xs => nls xs
  | .dict kvs => nlk kvs
def nls : List PyData → Bool
  | [] => true
  | x :: r => nl x && nls r
def nlk : List (PyData × PyData) → Bool
  | [] => true
  | (_, x) :: r => nl x && nlk r
end
def reprL (ds : List D) : Option D := match toRs ds with
  | some ps => if (PyData.list ps).showable = true ∧ (PyData.list ps).depth ≤ 60 ∧ (PyData.list ps).shown.length ≤ sizeLine ∧ ((PyData.list ps).hasDict = true → nls ps = true) ∧ ds.length ≤ line then some (.str (PyData.list ps).shown) else none
  | none => none
theorem reads_keys {h : Heap} : ∀ {es : List DictEntry} {vs : List (L2.Key × Value)} {P : Program} {w : World}, Pairs (mixKind P w) es vs → ReadsAll h (es.map (·.key)) (vs.map (fun q => keyR q.1)) []
  | _, _, _, _, .nil => .nil
  | _, _, _, _, .cons (e := e) (kv := kv) h1 h2 r => by
    have h1' : keyIs kv.1 e.key = true := h1
    have r' := reads_keys (h := h) r
    rcases keyIs_shape h1' with ⟨i, t, e1, e2⟩ | ⟨i, t, e1, e2⟩
    · rw [List.map_cons, List.map_cons, e1, e2]
      exact ReadsAll.cons (as := []) (bs := []) (.int i t) r'
    · rw [List.map_cons, List.map_cons, e1, e2]
      exact ReadsAll.cons (as := []) (bs := []) (.str i t) r'
theorem pairs_vals {P : Program} {w : World} : ∀ {es : List DictEntry} {vs : List (L2.Key × Value)}, Pairs (mixKind P w) es vs → es.map (·.val) = vs.map (·.2)
  | _, _, .nil => rfl
  | _, _, .cons h1 h2 r => by rw [List.map_cons, List.map_cons, h2, pairs_vals r]
theorem kv_split : ∀ {kvs : List (L2.Key × V)} {vs : List (L2.Key × Value)}, KV kvs vs → kvs.map (·.1) = vs.map (·.1) ∧ Vals (kvs.map (·.2)) (vs.map (·.2))
  | _, _, .nil => ⟨rfl, .nil⟩
  | _, _, .cons h r => by
    obtain ⟨h1, h2⟩ := kv_split r
    exact ⟨by rw [List.map_cons, List.map_cons, h.1, h1], .cons h.2 h2⟩
theorem toRk_split : ∀ {es : List (L2.Key × D)} {kvs : List (PyData × PyData)}, toRk es = some kvs → toRs (es.map (·.2)) = some (kvs.map (·.2)) ∧ kvs.map (·.1) = es.map (fun q => keyR q.1) ∧ nlk kvs = nls (kvs.map (·.2))
  | [], kvs, e => by
    simp only [toRk] at e
    cases e
    exact ⟨by simp [toRs], rfl, by simp [nlk, nls]⟩
  | (k, d) :: r, kvs, e => by
    simp only [toRk] at e
    split at e
    · rename_i p hp
      split at e <;> cases e
      rename_i ps hps
      obtain ⟨h1, h2, h3⟩ := toRk_split hps
      exact ⟨by simp only [List.map_cons, toRs, hp, h1], by rw [List.map_cons, List.map_cons, h2], by simp only [List.map_cons, nlk, nls, h3]⟩
    · cases e
section
variable {c : Cfg} {H F : Hp} {P : Program} {w : World} {h : Heap}
mutual
theorem rd_of (ok : HOk P w H h) (sub : Same F H) : ∀ {v : V} {d : D} {p : PyData} {u : Value}, Rep c F v d → toR d = some p → RelV v u → ∃ as, Reads h u p as ∧ (nl p = true → sysModules ∉ as)
  | _, _, _, _, .non, e, r => by
    simp only [toR] at e; cases e
    cases (show _ = Value.none from r)
    exact ⟨_, .none, fun _ z => nomatch z⟩
  | _, _, _, _, .bl b, e, r => by
    simp only [toR] at e; cases e
    cases (show _ = Value.bool b from r)
    exact ⟨_, .bool b, fun _ z => nomatch z⟩
  | _, _, _, _, .int i, e, r => by
    simp only [toR] at e; cases e
    obtain ⟨t, rfl⟩ := (show ∃ t, _ = Value.int i t from r)
    exact ⟨_, .int i t, fun _ z => nomatch z⟩
  | _, _, _, _, .str i, e, r => by
    simp only [toR] at e; cases e
    obtain ⟨t, rfl⟩ := (show ∃ t, _ = Value.str i t from r)
    exact ⟨_, .str i t, fun _ z => nomatch z⟩
  | _, _, _, _, @Rep.lst _ _ a xs ds ha hr, e, r => by
    simp only [toR] at e
    split at e <;> cases e
    rename_i ps hps
    cases (show _ = Value.ref a from r)
    obtain ⟨_, its, n, rv, h1⟩ := (show ObjOk P w H h a (.lst xs) from ok a _ (sub _ _ ha))
    obtain ⟨as, q, _⟩ := rds_of ok sub hr hps rv
    exact ⟨_, .list h1 rfl rfl (by simpa using q), fun z => by simp [nl] at z⟩
  | _, _, _, _, @Rep.tup _ _ a xs ds ha hr, e, r => by
    simp only [toR] at e
    split at e <;> cases e
    rename_i ps hps
    cases (show _ = Value.ref a from r)
    obtain ⟨_, its, rv, o, h1, h2, n, h3⟩ := (show ObjOk P w H h a (.tup xs) from ok a _ (sub _ _ ha))
    obtain ⟨as, q, qn⟩ := rds_of ok sub hr hps rv
    exact ⟨_, .tuple h1 h2 h3 (by simpa using q), fun z => qn (by simpa [nl] using z)⟩
  | _, _, _, _, @Rep.dK _ _ a kvs es ha hk hr, e, r => by
    simp only [toR] at e
    split at e <;> cases e
    rename_i kvs' hkv
    cases (show _ = Value.ref a from r)
    obtain ⟨_, hs, vs, rel, o, ents, ep, h1, h2, h3, h4, h5, _⟩ := (show ObjOk P w H h a (.dK kvs) from ok a _ (sub _ _ ha))
    obtain ⟨t1, t2, t3⟩ := toRk_split hkv
    obtain ⟨k1, k2⟩ := kv_split rel
    obtain ⟨bs, q, qn⟩ := rds_of ok sub hr t1 k2
    have rk := reads_keys (h := h) h5
    have e1 : vs.map (fun q => keyR q.1) = kvs'.map (·.1) := by
      rw [t2]
      have z : vs.map (fun q => keyR q.1) = (vs.map (·.1)).map keyR := by rw [List.map_map]; rfl
      have z2 : es.map (fun q => keyR q.1) = (es.map (·.1)).map keyR := by rw [List.map_map]; rfl
      rw [z, z2, ← k1, hk]
    rw [e1] at rk
    refine ⟨a :: [] ++ bs, .dict h1 h2.1 h3 rk ?_, fun z => ?_⟩
    · rw [pairs_vals h5]
      exact q
    · rw [show nl (.dict kvs') = nlk kvs' by simp [nl], t3] at z
      intro m
      rcases List.mem_append.mp m with m | m
      · rcases List.mem_cons.mp m with m | m
        · exact (beq_eq_false_iff_ne.mp hs) m.symm
        · exact nomatch m
      · exact qn z m
  | _, _, _, _, .dT .., e, _ => by simp only [toR] at e; cases e
  | _, _, _, _, .ins .., e, _ => by simp only [toR] at e; cases e
  | _, _, _, _, .exc .., e, _ => by simp only [toR] at e; cases e
  | _, _, _, _, .clo .., e, _ => by simp only [toR] at e; cases e
  | _, _, _, _, .drw .., e, _ => by simp only [toR] at e; cases e
  | _, _, _, _, .scr .., e, _ => by simp only [toR] at e; cases e
theorem rds_of (ok : HOk P w H h) (sub : Same F H) : ∀ {vs : List V} {ds : List D} {ps : List PyData} {us : List Value}, Reps c F vs ds → toRs ds = some ps → Vals vs us → ∃ as, ReadsAll h us ps as ∧ (nls ps = true → sysModules ∉ as)
  | _, _, _, _, .nil, e, r => by
    simp only [toRs] at e; cases e
    cases r
    exact ⟨_, .nil, fun _ z => nomatch z⟩
  | _, _, _, _, .cons h1 h2, e, r => by
    simp only [toRs] at e
    split at e
    · rename_i p hp
      split at e <;> cases e
      rename_i ps hps
      cases r with
      | cons r1 r2 =>
        obtain ⟨as, q, qn⟩ := rd_of ok sub h1 hp r1
        obtain ⟨bs, q', qn'⟩ := rds_of ok sub h2 hps r2
        refine ⟨_, .cons q q', fun z m => ?_⟩
        rw [nls, Bool.and_eq_true] at z
        rcases List.mem_append.mp m with m | m
        · exact qn z.1 m
        · exact qn' z.2 m
    · cases e
end
end
section
variable {X : Cx} {c : Cfg} {E : XK} {κ : Kd} {es : List Expr} {as : List Ar} {p lp pos : Pos}
def eReprL (as : List Ar) : EvF := fun ρ => (evs as ρ).bnd fun ds => lift (reprL ds)
theorem de_reprL {k : Nat} (hgd : X.A.guards = some []) (hr : Room k X.A) (hg : Gl X "repr") (hm : X.mg "repr" = none) (ha : PA X es (tA c E false as)) (he : starEach [.List es lp] X.env = (false, eval (.List es lp) X.env) :: starEach [] X.env) :
    PE X (.Call (.Name "repr" p) [.List es lp] [] pos) (tK c E κ (eReprL as)) := by
  refine ⟨fun pins s σ H Q I h => ?_⟩
  refine wpAny_Call_Name_kw (ld_blt I hg hm (by decide +kernel : bootBuiltins "repr" = some (.builtin "repr")) ?_ (by decide) (by decide))
  refine PyProof.Rows.callWith_builtin1 ?_ he (by rfl)
  rw [he]
  obtain ⟨F, ρ, d0, sim, p⟩ := h
  show wpAny _ _ (spliced ((false, eval (.List es lp) X.env) :: backTo pos (starEach [] X.env))) _ _ _
  refine Calls.spliced_cons (wpAny_List_spliced (thn (ha.run lp pins _ σ H _ (I.tok _) ⟨F, ρ, d0, sim, (PostA.of (b := false) p)⟩) fun us s1 ⟨vs, H1, I1, r1, ds, s2, F1, n1, rs, p1⟩ => ?_))
  have rs' : Reps c F1 vs ds := rs
  obtain ⟨d, ed, q⟩ := p1.end
  unfold reprL at ed
  split at ed
  · rename_i ps hps
    split at ed <;> cases ed
    rename_i hc
    obtain ⟨c1, c2, c3, c4, c5⟩ := hc
    refine ⟨by rw [← Paired.length r1, rs'.length, sizeLine_eq]; exact c5, ?_⟩
    refine Calls.spliced_nil ?_
    obtain ⟨as', q', qn⟩ := rds_of (h := s1.heap) I1.hok n1.wf.sub rs' hps r1
    have kp : ∀ b o, s1.heap.get? b = some o → (s1.heap.push { cls := .type "list", data := .seq us.toArray }).get? b = some o := fun b o e => Heap.get?_push_of_some _ e
    have R : Reads (s1.heap.push { cls := .type "list", data := .seq us.toArray }) (.ref s1.heap.objs.size) (.list ps) (s1.heap.objs.size :: as') :=
      .list (Heap.get?_push_size _ rfl) rfl rfl (by simpa using ReadsAll.keeps kp q')
    refine repr_of_reads' R c1 (fun hd m => ?_) hgd (by have := hr.un; omega) (fun _ _ z => z) (fun h' u tk k => ?_) c3
    · rcases List.mem_cons.mp m with m | m
      · exact absurd m (Nat.ne_of_lt I1.big)
      · exact qn (c4 hd) m
    · exact ⟨.str _, H1, I1.kept (t' := tk) fun b o z => k b o (kp b o z), ⟨u, rfl⟩, q _ _ _ (Next.refl n1.wf) (up_rep (.str _))⟩
  · cases ed
end
end Mn

/-! Hk: the head's facts about the classes of errors, read by a Hook beside hookD. -/
namespace Hm
open PySem PySem.Spec PyProof.Rows L2 Mn He

def asM (g : Addr → Option Obj) : Nat → List Addr
  | 0 => [mainGlobals, cStatics]
  | n + 1 => growD g (asM g n)
def oexB (K : PySem.W.Frag) (C : Addr) : Bool := match K.lookup C with
  | some ⟨.type "type", _, .cls cd, sl⟩ => (match cd.mro, sl.toList with
    | .ref C' :: bm, [_, _, _, _, some (.builtin n), _] => decide (C' = C) && (decide (n = "ValueError.__new__") && (!cd.hasDel && (cd.hasDict && PySem.HandSPX.refsVE bm)))
    | _, _ => false)
  | _ => false
/-- what holds of a class of errors -/
def exB (K : PySem.W.Frag) (C : Addr) : Bool := xfB K C && (decide (PySem.W.findIn K (.ref C) "__class__" = some (some (.builtin "object.__class__"))) && (decide (PySem.W.specialIn K (.builtin "object.__class__") "__get__" = some (some (.builtin "getset_descriptor.__get__"))) &&
  (decide (PySem.W.takesIn K (.builtin "object.__class__") = some true) && (decide (PySem.W.mroIn K C (.type "object") = some true) && (oexB K C && (decide (PySem.W.findIn K (.ref C) "__setattr__" = some (some (.builtin "object.__setattr__"))) &&
  (decide (PySem.W.typeIn K (.ref C) = some (.type "type")) && PySem.W.keepIn K (.ref C))))))))
structure ExA (K : PySem.W.Frag) (C : Addr) : Prop where
  c : ExcC K C
  x : XfC K C
  o : OexC K C
theorem oexB_ok {K : PySem.W.Frag} {C : Addr} (h : oexB K C = true) : ∃ nm q N bs bm sn sub ab col dd k0 k1 k2 k3 k5, K.lookup C = some (excClassObj nm q C N bs bm true sn sub ab col dd k0 k1 k2 k3 k5 "ValueError.__new__") ∧ PySem.HandSPX.refsVE bm = true := by
  unfold oexB at h
  split at h
  · rename_i dd cd sl ho
    split at h
    · rename_i C' bm k0 k1 k2 k3 n k5 hm hs
      obtain ⟨h1, h⟩ := ba h
      obtain ⟨h2, h⟩ := ba h
      obtain ⟨h3, h⟩ := ba h
      obtain ⟨h4, h5⟩ := ba h
      have e1 := of_decide_eq_true h1
      have e2 := of_decide_eq_true h2
      subst e1 e2
      obtain ⟨nm, bs, mro, ns, qn, hd, sn, sub, ab, col, del⟩ := cd
      obtain ⟨sl⟩ := sl
      dsimp only at hm hs h3 h4
      subst hm hs h4
      cases del
      · exact ⟨nm, qn, ns, bs, bm, sn, sub, ab, col, dd, k0, k1, k2, k3, k5, ho, h5⟩
      · cases h3
    · cases h
  · cases h
theorem exB_ok {K : PySem.W.Frag} {C : Addr} (h : exB K C = true) : ExA K C := by
  obtain ⟨h1, h⟩ := ba h
  obtain ⟨h2, h⟩ := ba h
  obtain ⟨h3, h⟩ := ba h
  obtain ⟨h4, h⟩ := ba h
  obtain ⟨h5, h⟩ := ba h
  obtain ⟨h6, h⟩ := ba h
  obtain ⟨h7, h⟩ := ba h
  obtain ⟨h8, h9⟩ := ba h
  have X := xfB_ok h1
  exact ⟨⟨X.ga, X.gg, X.exC, X.hdC, of_decide_eq_true h2, of_decide_eq_true h3, of_decide_eq_true h4, of_decide_eq_true h5⟩, X, ⟨oexB_ok h6, of_decide_eq_true h7, X.exC, of_decide_eq_true h8, h9⟩⟩
/-- the classes by number: name, fields; of what they are, by numbers and by built-in names -/
structure Tab where
  exl : List (Str × List Str)
  mroN : Nat → List Nat
  mroB : Nat → List String
  bis : List String
def Tab.ad (T : Tab) (K : PySem.W.Frag) (i : Nat) : Addr := match T.exl[i]? with
  | some p => ga K p.1
  | none => 0
def Tab.cfg (T : Tab) (K : PySem.W.Frag) : Cfg := ⟨K, none, fun k => (T.exl[k]?).map fun p => (ga K p.1, p.2), fun _ => False⟩
def Tab.ok (T : Tab) (K : PySem.W.Frag) : Bool := (List.range T.exl.length).all fun i => exB K (T.ad K i) && ((List.range T.exl.length).all (fun j => decide (PySem.W.kitOne K (.ref (T.ad K i)) (.ref (T.ad K j)) = some ((T.mroN i).contains j))) && T.bis.all fun b => decide (PySem.W.kitOne K (.ref (T.ad K i)) (.type b) = some ((T.mroB i).contains b)))
def Tab.kt (T : Tab) : Ty → Ty → Option Bool
  | .ex i, .own j => if i < T.exl.length ∧ j < T.exl.length then some ((T.mroN i).contains j) else none
  | .ex i, .bi b => if i < T.exl.length ∧ b ∈ T.bis then some ((T.mroB i).contains b) else none
  | _, _ => none
/-! ### an __init__ that keeps its value -/
structure IniD where
  cls : Str
  fld : Str
  qual : Str
  params : Arguments
  body : List Stmt
  scope : Scope
abbrev IniV : Type := Option (Str × Str × Arguments × FuncBody × Scope × Addr × List Str × Addr × Value)
def IniD.at_ (d : IniD) (K : PySem.W.Frag) : Addr := ma K (ga K d.cls) "__init__"
def iniObs (K : PySem.W.Frag) (d : IniD) : IniV := match K.lookup (d.at_ K) with
  | some ⟨_, _, .func fd, _⟩ => some (fd.name, fd.qualname, fd.params, fd.body, fd.scope, fd.globals, fd.closure.map (·.1), fd.builtins, fd.defaults)
  | _ => none
def IniD.val (d : IniD) : IniV := some ("__init__", d.qual, d.params, .stmts d.body, d.scope, mainGlobals, ["__class__"], builtinsNs, .none)
def alB (K : PySem.W.Frag) (C : Addr) : Bool := match PySem.W.clsIn K C with
  | some cd => decide (PySem.W.alongIn K "__init__" ((cd.mro.dropWhile (· != .ref C)).drop 1) = some (some (.builtin "ValueError.__init__")))
  | none => false
def iniB2 (K : PySem.W.Frag) (file : Str) (C : Addr) (clo : List (Str × Addr)) (code : Value) : Bool := match clo.map (·.2) with
  | [cc] => (match K.lookup cc with
    | some ⟨_, _, .cell (some (.ref C')), _⟩ => decide (C' = C)
    | _ => false) && (match code with
      | .ref c0 => (match K.lookup c0 with
        | some ⟨_, _, .fields vs, _⟩ => (match (vs[2]? : Option Value) with
          | some (Value.str f _) => file == f
          | _ => false)
        | _ => false)
      | _ => false)
  | _ => false
theorem iniB2_ok {K : PySem.W.Frag} {file : Str} {C cc : Addr} {y : Str} {code : Value} (h : iniB2 K file C [(y, cc)] code = true) :
    ∃ occ odc slc c0 oc0 od0 vs sl0 f tf, code = .ref c0 ∧ K.lookup cc = some ⟨occ, odc, .cell (some (.ref C)), slc⟩ ∧ K.lookup c0 = some ⟨oc0, od0, .fields vs, sl0⟩ ∧ vs[2]? = some (Value.str f tf) ∧ (file == f) = true := by
  obtain ⟨hc, hf⟩ := ba h
  split at hc
  · rename_i c1 c2 C' c3 qc
    have ec := of_decide_eq_true hc
    subst ec
    split at hf
    · rename_i c0
      split at hf
      · rename_i o1 o2 vs o3 q0
        split at hf
        · rename_i f tf q2
          exact ⟨_, _, _, _, _, _, vs, _, f, tf, rfl, qc, q0, q2, hf⟩
        · cases hf
      · cases hf
    · cases hf
  · cases hc
def iniB3 (K : PySem.W.Frag) (file : Str) (C f : Addr) (qual : Str) : Bool := match K.lookup f with
  | some ⟨_, _, .func fd, _⟩ => PySem.W.codeIn K fd.code qual && iniB2 K file C fd.closure fd.code
  | _ => false
def IniD.ok (d : IniD) (file : Str) (K : PySem.W.Frag) : Bool := eqO (PySem.W.findIn K (.ref (ga K d.cls)) "__init__") (some (some (.ref (d.at_ K)))) && (decide (PySem.W.typeIn K (.ref (d.at_ K)) = some (.type "function")) && (eqO (PySem.W.findIn K (.ref (ga K d.cls)) d.fld) (some none) &&
  (eqO (PySem.W.nsIn K cStatics "thirdparty.any") (some none) && (alB K (ga K d.cls) && (decide (PySem.W.mroIn K (ga K d.cls) (.ref (ga K d.cls)) = some true) && (decide (PySem.W.subIn K (.ref (ga K d.cls)) (.type "ValueError") = some true) && iniB3 K file (ga K d.cls) (d.at_ K) d.qual))))))
theorem ini_ok {K : PySem.W.Frag} {P : Program} {d : IniD} (o : OexC K (ga K d.cls)) (e : iniObs K d = d.val) (h : d.ok P.main.file K = true) (top : (P.main.scope.names.lookup ("super" : Str)).isSome = false) :
    ∃ fd, ExI K P (ga K d.cls) (d.at_ K) d.qual d.params d.body d.scope fd d.fld ∧ PySem.W.findIn K (.ref (ga K d.cls)) "__init__" = some (some (.ref (d.at_ K))) ∧ PySem.W.typeIn K (.ref (d.at_ K)) = some (.type "function") ∧
      ∃ cc kV doc pm an c0 ct, fd = PySem.W.fnX "__init__" d.qual d.params d.body d.scope [("__class__", cc)] .none kV doc pm an (.ref c0) ct := by
  obtain ⟨h1, h⟩ := ba h
  obtain ⟨h2, h⟩ := ba h
  obtain ⟨h3, h⟩ := ba h
  obtain ⟨h4, h⟩ := ba h
  obtain ⟨h5, h⟩ := ba h
  obtain ⟨h6, h⟩ := ba h
  obtain ⟨h7, h⟩ := ba h
  unfold iniObs at e
  cases q : K.lookup (d.at_ K) with
  | none => unfold iniB3 at h; rw [q] at h; cases h
  | some ob =>
    obtain ⟨oc, od, dt, osl⟩ := ob
    cases dt with
    | func fd =>
      have h' : (PySem.W.codeIn K fd.code d.qual && iniB2 K P.main.file (ga K d.cls) fd.closure fd.code) = true := by
        unfold iniB3 at h
        rw [q] at h
        exact h
      rw [q] at e
      obtain ⟨n1, n2, n3, n4, n5, n6, n7, n8, n9, n10, n11, n12, n13, n14, n15⟩ := fd
      obtain ⟨h8, hb⟩ := ba h'
      have e2 : (some (n1, n2, n3, n4, n5, n6, n7.map (·.1), n15, n8) : IniV) = IniD.val d := e
      simp only [IniD.val, Option.some.injEq, Prod.mk.injEq] at e2
      obtain ⟨g1, g2, g3, g4, g5, g6, g7, g8, g9⟩ := e2
      subst g1 g2 g3 g4 g5 g6 g8 g9
      match n7, g7, hb with
      | [], g7, _ => cases g7
      | _ :: _ :: _, g7, _ => exact absurd (congrArg List.length g7) (by simp)
      | [(y, cc)], g7, hb =>
        have ey : y = ("__class__" : Str) := (List.cons.inj (show [y] = [("__class__" : Str)] from g7)).1
        rw [ey] at hb q
        obtain ⟨occ, odc, slc, c0, oc0, od0, vs, sl0, f, tf, ec, qc, q0, q2, hf⟩ := iniB2_ok hb
        have ec : n13 = .ref c0 := ec
        rw [ec] at q h8
        refine ⟨_, ⟨o, ⟨oc, od, _, _, _, _, _, _, osl, cc, c0, occ, odc, slc, oc0, od0, vs, sl0, f, tf, rfl, q, h8, qc, q0, q2, hf⟩, eqO_ok h3, eqO_ok h4, ?_, of_decide_eq_true h6, of_decide_eq_true h7, top⟩, eqO_ok h1, of_decide_eq_true h2, cc, _, _, _, _, c0, _, rfl⟩
        unfold alB at h5
        split at h5
        · rename_i cd hcd
          exact ⟨cd, hcd, of_decide_eq_true h5⟩
        · cases h5
    | _ => unfold iniB3 at h; rw [q] at h; cases h
/-! ### the Hook -/
abbrev AlM : Type := AlD × (Bool × List IniV)
def obsM (fa : List Fa) (fn : List DefD) (T : Tab) (ins : List IniD) (file : Str) (K : PySem.W.Frag) : AlM := (obsD fa fn K, (T.ok K && ins.all fun d => d.ok file K, ins.map fun d => iniObs K d))
def valM (fn : List DefD) (ins : List IniD) : AlM := (valD fn, (true, ins.map IniD.val))
def obsMG (n : Nat) (fa : List Fa) (fn : List DefD) (T : Tab) (ins : List IniD) (file : Str) (g : Addr → Option Obj) : AlM := obsM fa fn T ins file (frG g (asM g n))
def SaysM (fa : List Fa) (fn : List DefD) (T : Tab) (ins : List IniD) (file : Str) (K : PySem.W.Frag) : Prop := obsM fa fn T ins file K = valM fn ins
def hookM (n : Nat) (fa : List Fa) (fn : List DefD) (T : Tab) (ins : List IniD) (file : Str) : PySem.W.Hook where
  α := AlM
  obs := fun s => obsMG n fa fn T ins file s.heap.get?
  val := fun _ => valM fn ins
  says := fun _ h => ∃ K : PySem.W.Frag, K.In h ∧ SaysM fa fn T ins file K
  of := fun _ _ e => ⟨_, frG_in, e⟩
  keeps := fun _ _ _ ⟨K, hK, c⟩ k => ⟨K, PySem.W.Frag.In.keeps hK k, c⟩
theorem obsMG_eq {n : Nat} {fa : List Fa} {fn : List DefD} {T : Tab} {ins : List IniD} {file : Str} {g : Addr → Option Obj} {s : Shared} (h : ∀ a, g a = s.heap.get? a) : obsMG n fa fn T ins file g = (hookM n fa fn T ins file).obs s := by
  have e : g = s.heap.get? := funext h
  rw [e] <;> rfl
section
variable {fa : List Fa} {fn : List DefD} {T : Tab} {ins : List IniD} {file : Str} {K : PySem.W.Frag} {mg : Str → Option Value}
theorem SaysM.d (c : SaysM fa fn T ins file K) : SaysD fa fn K := congrArg (fun z : AlM => z.1) c
theorem SaysM.tab (c : SaysM fa fn T ins file K) : T.ok K = true := (ba (show (T.ok K && ins.all fun d => d.ok file K) = true from congrArg (fun z : AlM => z.2.1) c)).1
theorem SaysM.ini (c : SaysM fa fn T ins file K) (i : Nat) {d : IniD} (h : ins[i]? = some d) : d.ok file K = true ∧ iniObs K d = d.val := by
  have c1 := (ba (show (T.ok K && ins.all fun d => d.ok file K) = true from congrArg (fun z : AlM => z.2.1) c)).2
  have c2 : ins.map (fun d => iniObs K d) = ins.map IniD.val := congrArg (fun z : AlM => z.2.2) c
  have e2 : (ins.map fun d => iniObs K d)[i]? = (ins.map IniD.val)[i]? := by rw [c2]
  rw [List.getElem?_map, List.getElem?_map, h] at e2
  exact ⟨List.all_eq_true.mp c1 d (List.mem_of_getElem? h), Option.some.inj e2⟩
theorem Tab.cls_at {dr : Option (Addr × Addr × Addr)} {k : Nat} {C : Addr} {fs : List Str} (h : ({ T.cfg K with dr := dr } : Cfg).cls k = some (C, fs)) : ∃ x, T.exl[k]? = some (x, fs) ∧ C = ga K x ∧ T.ad K k = C ∧ k < T.exl.length := by
  have h : (T.exl[k]?).map (fun p => (ga K p.1, p.2)) = some (C, fs) := h
  cases e : T.exl[k]? with
  | none => rw [e] at h; cases h
  | some p =>
    rw [e] at h
    obtain ⟨x, fs'⟩ := p
    cases h
    exact ⟨x, rfl, rfl, by unfold Tab.ad; rw [e], (List.getElem?_eq_some_iff.mp e).1⟩
theorem Tab.row (ok : T.ok K = true) {i : Nat} (hi : i < T.exl.length) : ExA K (T.ad K i) ∧ (∀ j, j < T.exl.length → PySem.W.kitOne K (.ref (T.ad K i)) (.ref (T.ad K j)) = some ((T.mroN i).contains j)) ∧ ∀ b, b ∈ T.bis → PySem.W.kitOne K (.ref (T.ad K i)) (.type b) = some ((T.mroB i).contains b) := by
  have h := List.all_eq_true.mp ok i (List.mem_range.mpr hi)
  obtain ⟨h1, h⟩ := ba h
  obtain ⟨h2, h3⟩ := ba h
  exact ⟨exB_ok h1, fun j hj => of_decide_eq_true (List.all_eq_true.mp h2 j (List.mem_range.mpr hj)), fun b hb => of_decide_eq_true (List.all_eq_true.mp h3 b hb)⟩
theorem Tab.exa (ok : T.ok K = true) {dr : Option (Addr × Addr × Addr)} {k : Nat} {C : Addr} {fs : List Str} (h : ({ T.cfg K with dr := dr } : Cfg).cls k = some (C, fs)) : ExA K C := by
  obtain ⟨x, _, _, e, hk⟩ := Tab.cls_at h
  rw [← e]
  exact (Tab.row ok hk).1
theorem Tab.kn (ok : T.ok K = true) (b : Bi mg) (dr : Option (Addr × Addr × Addr)) : Kn K mg { T.cfg K with dr := dr } T.kt where
  eK := rfl
  ncl := fun h => h
  b := b
  kit := fun t u v1 v2 w1 w2 r h h1 h2 => by
    cases t with
    | bi n => cases u <;> cases h
    | own k => cases u <;> cases h
    | ex i =>
      obtain ⟨C, fs, hc, _, rfl⟩ := h1
      obtain ⟨x, _, _, e, hi⟩ := Tab.cls_at hc
      have R := Tab.row ok hi
      rw [e] at R
      cases u with
      | own j =>
        obtain ⟨C2, fs2, hc2, _, rfl⟩ := h2
        obtain ⟨y, _, _, e2, hj⟩ := Tab.cls_at hc2
        have h : (if i < T.exl.length ∧ j < T.exl.length then some ((T.mroN i).contains j) else none) = some r := h
        rw [if_pos ⟨hi, hj⟩] at h
        rw [← h, ← e2]
        exact R.2.1 j hj
      | bi n =>
        obtain ⟨_, rfl⟩ := h2
        have h : (if i < T.exl.length ∧ n ∈ T.bis then some ((T.mroB i).contains n) else none) = some r := h
        split at h
        · rename_i hh
          rw [← h]
          exact R.2.2 n hh.2
        · cases h
      | ex j => cases h
  ins := fun k C fs u b hc h => by cases u <;> cases h
  exi := fun k C fs u b hc h => (Tab.exa ok hc).c
theorem Tab.gc {x : Str} {k : Nat} {fs : List Str} (h : T.exl[k]? = some (x, fs)) (hm : mg x = some (.ref (ga K x))) (dr : Option (Addr × Addr × Addr)) : Gc mg { T.cfg K with dr := dr } x k :=
  ⟨ga K x, fs, hm, by show (T.exl[k]?).map _ = _; rw [h]; rfl⟩
theorem Tab.exp {x : Str} {k : Nat} (h : T.exl[k]? = some (x, [])) (hm : mg x = some (.ref (ga K x))) (e : (Fa.exc x).ok K = true) (dr : Option (Addr × Addr × Addr)) : ExP K mg { T.cfg K with dr := dr } x k :=
  ⟨ga K x, veBase, "ValueError", "ValueError.__new__", "ValueError.__init__", F.excBase_ValueError, (exc_ok e).1, hm, (exc_ok e).2.1, by show (T.exl[k]?).map _ = _; rw [h]; rfl⟩
/-- the fields' names -/
def Tab.nm (T : Tab) (k : Nat) : List Str := match T.exl[k]? with
  | some p => p.2
  | none => []
theorem Tab.hn (dr : Option (Addr × Addr × Addr)) : ∀ k C fs, ({ T.cfg K with dr := dr } : Cfg).cls k = some (C, fs) → T.nm k = fs := fun k C fs h => by
  obtain ⟨x, e, _⟩ := Tab.cls_at h
  unfold Tab.nm
  rw [e]
/-- which classes have a field is told by the table: each has its own __init__ -/
theorem Tab.hx (ok : T.ok K = true) {n : Str} (h : ∀ p ∈ T.exl, n ∈ p.2 → PySem.W.findIn K (.ref (ga K p.1)) n = some none) (dr : Option (Addr × Addr × Addr)) : ∀ k C fs, ({ T.cfg K with dr := dr } : Cfg).cls k = some (C, fs) → n ∈ fs → XfC K C ∧ PySem.W.findIn K (.ref C) n = some none := fun k C fs hc hn => by
  obtain ⟨x, e, rfl, _⟩ := Tab.cls_at hc
  exact ⟨(Tab.exa ok hc).x, h _ (List.mem_of_getElem? e) hn⟩
theorem IniD.hno {d : IniD} (h : d.ok file K = true) : PySem.W.findIn K (.ref (ga K d.cls)) d.fld = some none := by
  obtain ⟨_, h⟩ := ba h
  obtain ⟨_, h⟩ := ba h
  exact eqO_ok (ba h).1
theorem Tab.exk {P : Program} {w : World} {base : Heap} {d : IniD} {k : Nat} {ps : List Str} (ok : T.ok K = true) (hk : T.exl[k]? = some (d.cls, [d.fld])) (hm : mg d.cls = some (.ref (ga K d.cls))) (hi : d.ok P.main.file K = true ∧ iniObs K d = d.val) (top : (P.main.scope.names.lookup ("super" : Str)).isSome = false) (hl : ps.length = 2)
    (mk : ∀ fd, ExI K P (ga K d.cls) (d.at_ K) d.qual d.params d.body d.scope fd d.fld → FnOk P w K mg base (L2.CX P w) 1 (d.at_ K) fd ps (spExI (ga K d.cls) d.fld))
    (b1 : ∀ cc kV doc pm an c0 ct (u v : Value), bindArgs (PySem.W.fnX "__init__" d.qual d.params d.body d.scope [("__class__", cc)] .none kV doc pm an c0 ct) ⟨[u, v], []⟩ = pure (ps.zip [u, v]))
    (b2 : ∀ cc kV doc pm an c0 ct (u v : Value), bindArgs (PySem.W.fnX "__init__" d.qual d.params d.body d.scope [("__class__", cc)] .none kV doc pm an c0 ct) ⟨[u], [(d.fld, v)]⟩ = pure (ps.zip [u, v])) (dr : Option (Addr × Addr × Addr)) :
    ExK P w K mg base { T.cfg K with dr := dr } d.cls k d.fld := by
  have hk' : ({ T.cfg K with dr := dr } : Cfg).cls k = some (ga K d.cls, [d.fld]) := by
    show (T.exl[k]?).map _ = _
    rw [hk]; rfl
  have O := (Tab.exa ok hk').o
  obtain ⟨fd, I, iC, tI, cc, kV, doc, pm, an, c0, ct, rfl⟩ := ini_ok O hi.2 hi.1 top
  exact ⟨ga K d.cls, d.at_ K, _, ps, O, iC, tI, mk _ I, hl, b1 _ _ _ _ _ _ _, b2 _ _ _ _ _ _ _, hm, hk'⟩
end
end Hm

namespace T00
noncomputable section
open PySem PySem.Spec PyProof.Rows L2 Mn
open Mn (D Env)
def top (i : Nat) : Stmt := PySem.Challenge.pw_flatrooms_k00_errors_of_all_parts.main.body.getD i (.Pass ⟨0, 0, 0, 0⟩)
def tab : Hm.Tab where
  exl := [("FlatError", []), ("BadPrime", []), ("BadNumber", ["part"]), ("BadBook", ["part"]), ("BadLot", []), ("BadThing", []), ("BadTable", []), ("BadSum", []), ("TooMany", ["most"]), ("BadDeed", []), ("BadLive", []), ("BadName", []), ("BadStart", []), ("BadText", ["at"]), ("NoWatch", ["name"]), ("NothingLeft", []), ("BadRow", []), ("BadTower", []), ("BadWeights", [])]
  mroN := fun i => [[0], [1, 0], [2, 0], [3, 0], [4, 0], [5, 0], [6, 0], [7, 0], [8, 0], [9, 0], [10, 0], [11, 0], [12, 0], [13, 0], [14, 0], [15, 0], [16, 0], [17, 0], [18, 0]].getD i []
  mroB := fun i => [["ValueError", "Exception", "BaseException", "object"], ["ValueError", "Exception", "BaseException", "object"], ["ValueError", "Exception", "BaseException", "object"], ["ValueError", "Exception", "BaseException", "object"], ["ValueError", "Exception", "BaseException", "object"], ["ValueError", "Exception", "BaseException", "object"], ["ValueError", "Exception", "BaseException", "object"], ["ValueError", "Exception", "BaseException", "object"], ["ValueError", "Exception", "BaseException", "object"], ["ValueError", "Exception", "BaseException", "object"], ["ValueError", "Exception", "BaseException", "object"], ["ValueError", "Exception", "BaseException", "object"], ["ValueError", "Exception", "BaseException", "object"], ["ValueError", "Exception", "BaseException", "object"], ["ValueError", "Exception", "BaseException", "object"], ["ValueError", "Exception", "BaseException", "object"], ["ValueError", "Exception", "BaseException", "object"], ["ValueError", "Exception", "BaseException", "object"], ["ValueError", "Exception", "BaseException", "object"]].getD i []
  bis := ["ValueError"]
def kt : Ty → Ty → Option Bool := tab.kt
def clsNm : Nat → List Str := tab.nm
section
variable {P : Program} {w : World} {K : PySem.W.Frag} {mg : Str → Option Value} {base : Heap} {c : Cfg}

/-! ### _law_begun: the draws begin -/
def f1_begun : EvF := (eLc [2] (sSeq (eVarB 0)) (.name 2) (some (eBin gGe (eB (one absD) [.one (eVarB 2)]) (eBin powD (eC (.int 10)) (eC (.int 18))))) (eBin subD (eB (one absD) [.one (eVarB 2)]) (eBin powD (eC (.int 10)) (eC (.int 18)))))
def fc_begun : EvF := (eLc [2] (sSeq (eVarB 0)) (.name 2) none (eB (one absD) [.one (eVarB 2)]))
theorem sc_begun0 : FnScope ["_law_script", "_law_large", "_law_grain"] ["_law_script"] (defScope (top 21)) := ⟨rfl, rfl, rfl, by decide +kernel, rfl, by decide +kernel, by decide +kernel⟩
theorem b_begun0 (T : Kn K mg c kt) {f : Addr} {cdv : Value} {A : Around} {outer : List PySem.Env} {s : Shared} {H : Hp} {E : XK} (hr : Room 0 (A.deeper (envOfC "_law_begun" (defScope (top 21)) s.heap.objs.size f cdv))) :
    PSs (cxOf (L2.CX P w) P w K mg base ["_law_script", "_law_large", "_law_grain"] "_law_begun" (defScope (top 21)) f cdv A outer s H E) (defBody (top 21)) (tBeg c f1_begun fc_begun) := by
  have hu := room_u hr
  have nd := sc_begun0.nd
  have po : PassesOwn (model P w) (A.deeper (envOfC "_law_begun" (defScope (top 21)) s.heap.objs.size f cdv)) (envOfC "_law_begun" (defScope (top 21)) s.heap.objs.size f cdv) (cxOf (L2.CX P w) P w K mg base ["_law_script", "_law_large", "_law_grain"] "_law_begun" (defScope (top 21)) f cdv A outer s H E).xe := passes_of rfl
  have px : Passes (L2.CX P w) (cxOf (L2.CX P w) P w K mg base ["_law_script", "_law_large", "_law_grain"] "_law_begun" (defScope (top 21)) f cdv A outer s H E) E := passes_call (takes_of rfl rfl rfl rfl) fun _ _ _ _ h => h
  exact beg_body (E := E) (dS_setLc (i := 1) rfl nd rfl rfl rfl (di_seq T.eK (de_varB (i := 0) rfl (.inl rfl) rfl rfl)) (own := [("_law_grain", 2)]) (blk_of (N := ["_law_script", "_law_large", "_law_grain"]) [("_law_script", .local), ("_law_large", .local)] rfl (by decide +kernel)) (fun _ _ _ _ _ => (dg_name (i := 2) nd rfl (.inl rfl) (.inr rfl))) (fun _ _ _ _ _ => (pts_one (dt_cmp (opD_cmpI op_ge) (de_bor (de_B (cB_abs) rfl T.b.abs boot_abs (da_cons (de_varB (i := 2) rfl (.inl rfl) rfl rfl) da_nil rfl) (by decide) rfl rfl rfl)) (de_bor (de_op (opD_pow) de_int de_int)) rfl))) (fun _ _ _ _ _ => (de_val (de_op (opD_sub) (de_bor (de_B (cB_abs) rfl T.b.abs boot_abs (da_cons (de_varB (i := 2) rfl (.inl rfl) rfl rfl) da_nil rfl) (by decide) rfl rfl rfl)) (de_bor (de_op (opD_pow) de_int de_int))))) (by decide) (fun _ => rfl)) rfl (.inl rfl) rfl rfl (de_lc rfl nd (di_seq T.eK (de_varB (i := 0) rfl (.inl rfl) rfl rfl)) (own := [("_law_grain", 2)]) (blk_of (N := ["_law_script", "_law_large", "_law_grain"]) [("_law_script", .local), ("_law_large", .local)] rfl (by decide +kernel)) (fun _ _ _ _ _ => (dg_name (i := 2) nd rfl (.inl rfl) (.inr rfl))) (fun _ _ _ _ _ => pts_nil) (fun _ _ _ _ _ => (de_val (de_B (cB_abs) rfl T.b.abs boot_abs (da_cons (de_varB (i := 2) rfl (.inl rfl) rfl rfl) da_nil rfl) (by decide) rfl rfl rfl))) (by decide) (fun _ => rfl))
theorem fx_begun0 (T : Kn K mg c kt) {f : Addr} {fd : FuncData} (F : FunD K "_law_begun" "_law_begun" (defArgs (top 21)) (defBody (top 21)) (defScope (top 21)) [] [] f fd) : FnOk P w K mg base (L2.CX P w) 1 f fd ["_law_script"] (spBeg c 2 f1_begun fc_begun) :=
  fn_beg F sc_begun0 rfl fun _ _ _ _ _ _ hr => b_begun0 T hr

/-! ### _law_mixed -/
def g_law_mixed : StF := (fSeq (fDrSet 0 .turn (eBin addD (eDr 0 .turn) (eC (.int 1)))) (fSeq (fPar [1, 2] [(false, (eB (one intD) [.one (eDr 0 .turn)])), (false, (eC (.int 0)))]) (fSeq (fFor (.name 3) (sSeq (eLst [.one (eC (.int 2147483629)), .one (eC (.int 2147483587)), .one (eC (.int 2147483579))])) (fSeq (fAsg 4 false (eBin modD (eBin addD (eBin mulD (eVarB 1) (eC (.int 69621))) (eBin fdivD (eVarB 3) (eC (.int 7)))) (eVarB 3))) (fSeq (fFor (.name 5) (sSeq (eDr 0 .cells)) (fSeq (fAsg 4 false (eBin modD (eBin addD (eBin mulD (eVarB 4) (eC (.int 48271))) (eB (one intD) [.one (eVarB 5)])) (eVarB 3))) fSkip)) (fSeq (fAsg 2 false (eBin addD (eBin mulD (eVarB 2) (eC (.int 2147483647))) (eBin modD (eBin powD (eVarB 4) (eC (.int 5))) (eVarB 3)))) fSkip)))) (fSeq (fRet (eVar 2)) fSkip))))
def fn_law_mixed : List D → M D := fnOf 6 1 g_law_mixed
theorem sc_law_mixed : FnScope ["_law_draw", "_law_turn", "_law_found", "_law_great", "_law_blend", "_law_grain"] ["_law_draw"] (defScope (top 22)) := ⟨rfl, rfl, rfl, by decide +kernel, rfl, by decide +kernel, by decide +kernel⟩
theorem b_law_mixed (T : Kn K mg c kt) {f : Addr} {cdv : Value} {A : Around} {outer : List PySem.Env} {s : Shared} {H : Hp} {E : XK} (hr : Room 0 (A.deeper (envOfC "_law_mixed" (defScope (top 22)) s.heap.objs.size f cdv))) :
    PSs (cxOf (L2.CX P w) P w K mg base ["_law_draw", "_law_turn", "_law_found", "_law_great", "_law_blend", "_law_grain"] "_law_mixed" (defScope (top 22)) f cdv A outer s H E) (defBody (top 22)) (tS c E .val g_law_mixed) := by
  have hu := room_u hr
  have nd := sc_law_mixed.nd
  have po : PassesOwn (model P w) (A.deeper (envOfC "_law_mixed" (defScope (top 22)) s.heap.objs.size f cdv)) (envOfC "_law_mixed" (defScope (top 22)) s.heap.objs.size f cdv) (cxOf (L2.CX P w) P w K mg base ["_law_draw", "_law_turn", "_law_found", "_law_great", "_law_blend", "_law_grain"] "_law_mixed" (defScope (top 22)) f cdv A outer s H E).xe := passes_of rfl
  have px : Passes (L2.CX P w) (cxOf (L2.CX P w) P w K mg base ["_law_draw", "_law_turn", "_law_found", "_law_great", "_law_blend", "_law_grain"] "_law_mixed" (defScope (top 22)) f cdv A outer s H E) E := passes_call (takes_of rfl rfl rfl rfl) fun _ _ _ _ h => h
  exact (ds_cons (dS_drSet (i := 0) .turn hu rfl (.inl rfl) rfl rfl (de_val (de_op (opD_add T.eK) (de_up (de_dr (i := 0) .turn hu rfl (.inl rfl) rfl rfl (fun _ _ => rfl))) de_int)) rfl) (ds_cons (dS_par2 (i := 1) (j := 2) rfl nd rfl rfl (by decide) rfl rfl (dp_cons (b := false) (de_val (de_Ty (cB_int) rfl T.b.int boot_int (da_cons (de_up (de_dr (i := 0) .turn hu rfl (.inl rfl) rfl rfl (fun _ _ => rfl))) da_nil rfl) (by decide) rfl rfl rfl)) (dp_cons (b := false) de_int dp_nil rfl) rfl) rfl rfl) (ds_cons (dS_for po rfl (di_seq T.eK (de_val (de_lst (da_cons de_int (da_cons de_int (da_cons de_int da_nil rfl) rfl) rfl)))) (dg_name (i := 3) nd rfl (.inl rfl) (.inr rfl)) (ds_cons (dS_set (i := 4) (b := false) nd rfl (.inl rfl) (de_val (de_op (opD_mod) (de_bor (de_op (opD_add T.eK) (de_bor (de_op (opD_mul) (de_varB (i := 1) rfl (.inl rfl) rfl rfl) de_int)) (de_bor (de_op (opD_fdiv) (de_varB (i := 3) rfl (.inl rfl) rfl rfl) de_int)))) (de_varB (i := 3) rfl (.inl rfl) rfl rfl))) rfl (.inl rfl)) (ds_cons (dS_for po rfl (di_seq T.eK (de_dr (i := 0) .cells hu rfl (.inl rfl) rfl rfl (fun _ _ => rfl))) (dg_name (i := 5) nd rfl (.inl rfl) (.inr rfl)) (ds_cons (dS_set (i := 4) (b := false) nd rfl (.inl rfl) (de_val (de_op (opD_mod) (de_bor (de_op (opD_add T.eK) (de_bor (de_op (opD_mul) (de_varB (i := 4) rfl (.inl rfl) rfl rfl) de_int)) (de_bor (de_Ty (cB_int) rfl T.b.int boot_int (da_cons (de_varB (i := 5) rfl (.inl rfl) rfl rfl) da_nil rfl) (by decide) rfl rfl rfl)))) (de_varB (i := 3) rfl (.inl rfl) rfl rfl))) rfl (.inl rfl)) ds_nil) (fun _ => rfl)) (ds_cons (dS_set (i := 2) (b := false) nd rfl (.inl rfl) (de_val (de_op (opD_add T.eK) (de_bor (de_op (opD_mul) (de_varB (i := 2) rfl (.inl rfl) rfl rfl) de_int)) (de_bor (de_op (opD_mod) (de_bor (de_op (opD_pow) (de_varB (i := 4) rfl (.inl rfl) rfl rfl) de_int)) (de_varB (i := 3) rfl (.inl rfl) rfl rfl))))) rfl (.inl rfl)) ds_nil))) (fun _ => rfl)) (ds_cons (dS_ret (de_var (i := 2) rfl (.inl rfl) rfl rfl)) ds_nil))))
theorem fx_law_mixed (T : Kn K mg c kt) {f : Addr} {fd : FuncData} (hm : mg "_law_mixed" = some (.ref f)) (F : FunD K "_law_mixed" "_law_mixed" (defArgs (top 22)) (defBody (top 22)) (defScope (top 22)) [] [] f fd) : Fx P w K mg base c 1 "_law_mixed" .val ["_law_draw"] fn_law_mixed :=
  ⟨⟨f, fd, hm, F.kp, F.bindsN fun _ _ _ _ _ _ us hl => match us, hl with | [_], _ => rfl, fnD F sc_law_mixed fun _ _ _ _ _ _ hr => b_law_mixed T  hr⟩, fnOf_len⟩

/-! ### _law_take -/
def g_law_take : StF := (fSeq (fIf (eBin gEq (eDr 0 .rest) (eC (.int 0))) (fSeq (fKnow 0) (fSeq (fDrSet 0 .rest (eIf (eDrMore 0) (eDrPop 0) (eCall fn_law_mixed [.one (eVar 0)]))) fSkip)) fSkip) (fSeq (fAsg 2 false (eBin modD (eB (one intD) [.one (eDr 0 .rest)]) (eVarB 1))) (fSeq (fDrSet 0 .rest (eBin fdivD (eB (one intD) [.one (eDr 0 .rest)]) (eVarB 1))) (fSeq (fRet (eVar 2)) fSkip))))
def fn_law_take : List D → M D := fnOf 3 2 g_law_take
theorem sc_law_take : FnScope ["_law_draw", "_law_amount", "_law_found"] ["_law_draw", "_law_amount"] (defScope (top 23)) := ⟨rfl, rfl, rfl, by decide +kernel, rfl, by decide +kernel, by decide +kernel⟩
theorem b_law_take (T : Kn K mg c kt) (H_law_mixed : Fx P w K mg base c 1 "_law_mixed" .val ["_law_draw"] fn_law_mixed) {f : Addr} {cdv : Value} {A : Around} {outer : List PySem.Env} {s : Shared} {H : Hp} {E : XK} (hr : Room 1 (A.deeper (envOfC "_law_take" (defScope (top 23)) s.heap.objs.size f cdv))) :
    PSs (cxOf (L2.CX P w) P w K mg base ["_law_draw", "_law_amount", "_law_found"] "_law_take" (defScope (top 23)) f cdv A outer s H E) (defBody (top 23)) (tS c E .val g_law_take) := by
  have hu := room_u hr
  have nd := sc_law_take.nd
  have po : PassesOwn (model P w) (A.deeper (envOfC "_law_take" (defScope (top 23)) s.heap.objs.size f cdv)) (envOfC "_law_take" (defScope (top 23)) s.heap.objs.size f cdv) (cxOf (L2.CX P w) P w K mg base ["_law_draw", "_law_amount", "_law_found"] "_law_take" (defScope (top 23)) f cdv A outer s H E).xe := passes_of rfl
  have px : Passes (L2.CX P w) (cxOf (L2.CX P w) P w K mg base ["_law_draw", "_law_amount", "_law_found"] "_law_take" (defScope (top 23)) f cdv A outer s H E) E := passes_call (takes_of rfl rfl rfl rfl) fun _ _ _ _ h => h
  exact (ds_cons (dS_if (dt_cmp (opD_eq T.eK hu) (de_up (de_dr (i := 0) .rest hu rfl (.inl rfl) rfl rfl (fun _ _ => rfl))) de_int rfl) (dS_know (i := 0) (ds_cons (dS_drSet (i := 0) .rest hu rfl (.inl rfl) rfl rfl (de_if (dt_drMore (i := 0) T.eK hu rfl (.inl rfl) rfl rfl (fun _ _ => rfl)) (de_drPop (i := 0) hu rfl (.inl rfl) rfl rfl (fun _ _ => rfl) rfl rfl rfl rfl rfl) (de_call H_law_mixed hr (by decide) rfl px (da_cons (de_var (i := 0) rfl (.inl rfl) rfl rfl) da_nil rfl) rfl rfl rfl)) rfl) ds_nil)) ds_nil) (ds_cons (dS_set (i := 2) (b := false) nd rfl (.inl rfl) (de_val (de_op (opD_mod) (de_bor (de_Ty (cB_int) rfl T.b.int boot_int (da_cons (de_up (de_dr (i := 0) .rest hu rfl (.inl rfl) rfl rfl (fun _ _ => rfl))) da_nil rfl) (by decide) rfl rfl rfl)) (de_varB (i := 1) rfl (.inl rfl) rfl rfl))) rfl (.inl rfl)) (ds_cons (dS_drSet (i := 0) .rest hu rfl (.inl rfl) rfl rfl (de_val (de_op (opD_fdiv) (de_bor (de_Ty (cB_int) rfl T.b.int boot_int (da_cons (de_up (de_dr (i := 0) .rest hu rfl (.inl rfl) rfl rfl (fun _ _ => rfl))) da_nil rfl) (by decide) rfl rfl rfl)) (de_varB (i := 1) rfl (.inl rfl) rfl rfl))) rfl) (ds_cons (dS_ret (de_var (i := 2) rfl (.inl rfl) rfl rfl)) ds_nil))))
theorem fx_law_take (T : Kn K mg c kt) (H_law_mixed : Fx P w K mg base c 1 "_law_mixed" .val ["_law_draw"] fn_law_mixed) {f : Addr} {fd : FuncData} (hm : mg "_law_take" = some (.ref f)) (F : FunD K "_law_take" "_law_take" (defArgs (top 23)) (defBody (top 23)) (defScope (top 23)) [] [] f fd) : Fx P w K mg base c 2 "_law_take" .val ["_law_draw", "_law_amount"] fn_law_take :=
  ⟨⟨f, fd, hm, F.kp, F.bindsN fun _ _ _ _ _ _ us hl => match us, hl with | [_, _], _ => rfl, fnD F sc_law_take fun _ _ _ _ _ _ hr => b_law_take T H_law_mixed hr⟩, fnOf_len⟩

/-! ### _law_pick -/
def g_law_pick : StF := (fSeq (fRet (eBin idxD (eVarB 1) (eCall fn_law_take [.one (eVar 0), .one (eB (one lenD) [.one (eVarB 1)])]))) fSkip)
def fn_law_pick : List D → M D := fnOf 2 2 g_law_pick
theorem sc_law_pick : FnScope ["_law_draw", "_law_some"] ["_law_draw", "_law_some"] (defScope (top 24)) := ⟨rfl, rfl, rfl, by decide +kernel, rfl, by decide +kernel, by decide +kernel⟩
theorem b_law_pick (T : Kn K mg c kt) (H_law_take : Fx P w K mg base c 2 "_law_take" .val ["_law_draw", "_law_amount"] fn_law_take) {f : Addr} {cdv : Value} {A : Around} {outer : List PySem.Env} {s : Shared} {H : Hp} {E : XK} (hr : Room 2 (A.deeper (envOfC "_law_pick" (defScope (top 24)) s.heap.objs.size f cdv))) :
    PSs (cxOf (L2.CX P w) P w K mg base ["_law_draw", "_law_some"] "_law_pick" (defScope (top 24)) f cdv A outer s H E) (defBody (top 24)) (tS c E .val g_law_pick) := by
  have hu := room_u hr
  have nd := sc_law_pick.nd
  have po : PassesOwn (model P w) (A.deeper (envOfC "_law_pick" (defScope (top 24)) s.heap.objs.size f cdv)) (envOfC "_law_pick" (defScope (top 24)) s.heap.objs.size f cdv) (cxOf (L2.CX P w) P w K mg base ["_law_draw", "_law_some"] "_law_pick" (defScope (top 24)) f cdv A outer s H E).xe := passes_of rfl
  have px : Passes (L2.CX P w) (cxOf (L2.CX P w) P w K mg base ["_law_draw", "_law_some"] "_law_pick" (defScope (top 24)) f cdv A outer s H E) E := passes_call (takes_of rfl rfl rfl rfl) fun _ _ _ _ h => h
  exact (ds_cons (dS_ret (de_ix T.eK hu (de_varB (i := 1) rfl (.inl rfl) rfl rfl) (de_up (de_call H_law_take hr (by decide) rfl px (da_cons (de_var (i := 0) rfl (.inl rfl) rfl rfl) (da_cons (de_val (de_B (cB_len T.eK) rfl T.b.len boot_len (da_cons (de_varB (i := 1) rfl (.inl rfl) rfl rfl) da_nil rfl) (by decide) rfl rfl rfl)) da_nil rfl) rfl) rfl rfl rfl)) (fun _ _ => rfl))) ds_nil)
theorem fx_law_pick (T : Kn K mg c kt) (H_law_take : Fx P w K mg base c 2 "_law_take" .val ["_law_draw", "_law_amount"] fn_law_take) {f : Addr} {fd : FuncData} (hm : mg "_law_pick" = some (.ref f)) (F : FunD K "_law_pick" "_law_pick" (defArgs (top 24)) (defBody (top 24)) (defScope (top 24)) [] [] f fd) : Fx P w K mg base c 3 "_law_pick" .val ["_law_draw", "_law_some"] fn_law_pick :=
  ⟨⟨f, fd, hm, F.kp, F.bindsN fun _ _ _ _ _ _ us hl => match us, hl with | [_, _], _ => rfl, fnD F sc_law_pick fun _ _ _ _ _ _ hr => b_law_pick T H_law_take hr⟩, fnOf_len⟩

/-! ### _law_any -/
def g_law_any : StF := (fSeq (fAsg 1 false (eLst [.one (eC .non), .one (eC (.bl false)), .one (eNeg (eC (.int 5))), .one (eBin powD (eC (.int 10)) (eC (.int 45))), .one (eC (.str "")), .one (eC (.str "wide")), .one (eC (.str "two words")), .one (eLst []), .one (eLst [.one (eTup [.one (eC (.int 0)), .one (eC (.int 2))])]), .one (eTup []), .one (eTup [.one (eC (.int 4))]), .one (eC (.dK [])), .one (eDisp [(.inr "a", (eTup [.one (eC (.int 1))]))]), .one (eLst [.one (eLst [.one (eC .non)])])])) (fSeq (fRet (eCall fn_law_pick [.one (eVar 0), .one (eVar 1)])) fSkip))
def fn_law_any : List D → M D := fnOf 2 1 g_law_any
theorem sc_law_any : FnScope ["_law_draw", "_law_some"] ["_law_draw"] (defScope (top 25)) := ⟨rfl, rfl, rfl, by decide +kernel, rfl, by decide +kernel, by decide +kernel⟩
theorem b_law_any (T : Kn K mg c kt) (H_law_pick : Fx P w K mg base c 3 "_law_pick" .val ["_law_draw", "_law_some"] fn_law_pick) {f : Addr} {cdv : Value} {A : Around} {outer : List PySem.Env} {s : Shared} {H : Hp} {E : XK} (hr : Room 3 (A.deeper (envOfC "_law_any" (defScope (top 25)) s.heap.objs.size f cdv))) :
    PSs (cxOf (L2.CX P w) P w K mg base ["_law_draw", "_law_some"] "_law_any" (defScope (top 25)) f cdv A outer s H E) (defBody (top 25)) (tS c E .val g_law_any) := by
  have hu := room_u hr
  have nd := sc_law_any.nd
  have po : PassesOwn (model P w) (A.deeper (envOfC "_law_any" (defScope (top 25)) s.heap.objs.size f cdv)) (envOfC "_law_any" (defScope (top 25)) s.heap.objs.size f cdv) (cxOf (L2.CX P w) P w K mg base ["_law_draw", "_law_some"] "_law_any" (defScope (top 25)) f cdv A outer s H E).xe := passes_of rfl
  have px : Passes (L2.CX P w) (cxOf (L2.CX P w) P w K mg base ["_law_draw", "_law_some"] "_law_any" (defScope (top 25)) f cdv A outer s H E) E := passes_call (takes_of rfl rfl rfl rfl) fun _ _ _ _ h => h
  exact (ds_cons (dS_set (i := 1) (b := false) nd rfl (.inl rfl) (de_val (de_lst (da_cons de_non (da_cons de_bl (da_cons (de_neg de_int) (da_cons (de_val (de_op (opD_pow) de_int de_int)) (da_cons de_str (da_cons de_str (da_cons de_str (da_cons (de_val (de_lst da_nil)) (da_cons (de_val (de_lst (da_cons (de_tup (da_cons de_int (da_cons de_int da_nil rfl) rfl)) da_nil rfl))) (da_cons (de_tup da_nil) (da_cons (de_tup (da_cons de_int da_nil rfl)) (da_cons (de_val de_dNewK) (da_cons (de_val (de_disp (pps_cons pe_str (de_tup (da_cons de_int da_nil rfl)) pps_nil) rfl rfl (by decide) (by decide))) (da_cons (de_val (de_lst (da_cons (de_val (de_lst (da_cons de_non da_nil rfl))) da_nil rfl))) da_nil rfl) rfl) rfl) rfl) rfl) rfl) rfl) rfl) rfl) rfl) rfl) rfl) rfl) rfl))) rfl (.inl rfl)) (ds_cons (dS_ret (de_call H_law_pick hr (by decide) rfl px (da_cons (de_var (i := 0) rfl (.inl rfl) rfl rfl) (da_cons (de_var (i := 1) rfl (.inl rfl) rfl rfl) da_nil rfl) rfl) rfl rfl rfl)) ds_nil))
theorem fx_law_any (T : Kn K mg c kt) (H_law_pick : Fx P w K mg base c 3 "_law_pick" .val ["_law_draw", "_law_some"] fn_law_pick) {f : Addr} {fd : FuncData} (hm : mg "_law_any" = some (.ref f)) (F : FunD K "_law_any" "_law_any" (defArgs (top 25)) (defBody (top 25)) (defScope (top 25)) [] [] f fd) : Fx P w K mg base c 4 "_law_any" .val ["_law_draw"] fn_law_any :=
  ⟨⟨f, fd, hm, F.kp, F.bindsN fun _ _ _ _ _ _ us hl => match us, hl with | [_], _ => rfl, fnD F sc_law_any fun _ _ _ _ _ _ hr => b_law_any T H_law_pick hr⟩, fnOf_len⟩

/-! ### _law_kinds -/
def g_law_kinds : StF := (fSeq (fAsg 1 false (eLst [])) (fSeq (fAsg 1 false (eBin addD (eVarB 1) (eLst [.one (eIsi kt [.own 1] (eVarB 0)), .one (eIsi kt [.own 4] (eVarB 0)), .one (eIsi kt [.own 5] (eVarB 0))]))) (fSeq (fAsg 1 false (eBin addD (eVarB 1) (eLst [.one (eIsi kt [.own 6] (eVarB 0)), .one (eIsi kt [.own 7] (eVarB 0)), .one (eIsi kt [.own 9] (eVarB 0))]))) (fSeq (fAsg 1 false (eBin addD (eVarB 1) (eLst [.one (eIsi kt [.own 10] (eVarB 0)), .one (eIsi kt [.own 11] (eVarB 0)), .one (eIsi kt [.own 12] (eVarB 0))]))) (fSeq (fAsg 1 false (eBin addD (eVarB 1) (eLst [.one (eIsi kt [.own 15] (eVarB 0)), .one (eIsi kt [.own 16] (eVarB 0)), .one (eIsi kt [.own 17] (eVarB 0))]))) (fSeq (fAsg 1 false (eBin addD (eVarB 1) (eLst [.one (eIsi kt [.own 18] (eVarB 0)), .one (eIsi kt [.own 2] (eVarB 0)), .one (eIsi kt [.own 3] (eVarB 0))]))) (fSeq (fAsg 1 false (eBin addD (eVarB 1) (eLst [.one (eIsi kt [.own 8] (eVarB 0)), .one (eIsi kt [.own 13] (eVarB 0)), .one (eIsi kt [.own 14] (eVarB 0))]))) (fSeq (fRet (eVar 1)) fSkip))))))))
def fn_law_kinds : List D → M D := fnOf 2 1 g_law_kinds
theorem sc_law_kinds : FnScope ["_law_error", "_law_found"] ["_law_error"] (defScope (top 26)) := ⟨rfl, rfl, rfl, by decide +kernel, rfl, by decide +kernel, by decide +kernel⟩
theorem b_law_kinds (T : Kn K mg c kt) (G_BadPrime : Gc mg c "BadPrime" 1) (G_BadLot : Gc mg c "BadLot" 4) (G_BadThing : Gc mg c "BadThing" 5) (G_BadTable : Gc mg c "BadTable" 6) (G_BadSum : Gc mg c "BadSum" 7) (G_BadDeed : Gc mg c "BadDeed" 9) (G_BadLive : Gc mg c "BadLive" 10) (G_BadName : Gc mg c "BadName" 11) (G_BadStart : Gc mg c "BadStart" 12) (G_NothingLeft : Gc mg c "NothingLeft" 15) (G_BadRow : Gc mg c "BadRow" 16) (G_BadTower : Gc mg c "BadTower" 17) (G_BadWeights : Gc mg c "BadWeights" 18) (G_BadNumber : Gc mg c "BadNumber" 2) (G_BadBook : Gc mg c "BadBook" 3) (G_TooMany : Gc mg c "TooMany" 8) (G_BadText : Gc mg c "BadText" 13) (G_NoWatch : Gc mg c "NoWatch" 14) {f : Addr} {cdv : Value} {A : Around} {outer : List PySem.Env} {s : Shared} {H : Hp} {E : XK} (hr : Room 0 (A.deeper (envOfC "_law_kinds" (defScope (top 26)) s.heap.objs.size f cdv))) :
    PSs (cxOf (L2.CX P w) P w K mg base ["_law_error", "_law_found"] "_law_kinds" (defScope (top 26)) f cdv A outer s H E) (defBody (top 26)) (tS c E .val g_law_kinds) := by
  have hu := room_u hr
  have nd := sc_law_kinds.nd
  have po : PassesOwn (model P w) (A.deeper (envOfC "_law_kinds" (defScope (top 26)) s.heap.objs.size f cdv)) (envOfC "_law_kinds" (defScope (top 26)) s.heap.objs.size f cdv) (cxOf (L2.CX P w) P w K mg base ["_law_error", "_law_found"] "_law_kinds" (defScope (top 26)) f cdv A outer s H E).xe := passes_of rfl
  have px : Passes (L2.CX P w) (cxOf (L2.CX P w) P w K mg base ["_law_error", "_law_found"] "_law_kinds" (defScope (top 26)) f cdv A outer s H E) E := passes_call (takes_of rfl rfl rfl rfl) fun _ _ _ _ h => h
  exact (ds_cons (dS_set (i := 1) (b := false) nd rfl (.inl rfl) (de_val (de_lst da_nil)) rfl (.inl rfl)) (ds_cons (dS_set (i := 1) (b := false) nd rfl (.inl rfl) (de_val (de_op (opD_add T.eK) (de_varB (i := 1) rfl (.inl rfl) rfl rfl) (de_bor (de_lst (da_cons (de_isi T rfl (de_varB (i := 0) rfl (.inl rfl) rfl rfl) (cl_own G_BadPrime rfl rfl) rfl rfl rfl) (da_cons (de_isi T rfl (de_varB (i := 0) rfl (.inl rfl) rfl rfl) (cl_own G_BadLot rfl rfl) rfl rfl rfl) (da_cons (de_isi T rfl (de_varB (i := 0) rfl (.inl rfl) rfl rfl) (cl_own G_BadThing rfl rfl) rfl rfl rfl) da_nil rfl) rfl) rfl))))) rfl (.inl rfl)) (ds_cons (dS_set (i := 1) (b := false) nd rfl (.inl rfl) (de_val (de_op (opD_add T.eK) (de_varB (i := 1) rfl (.inl rfl) rfl rfl) (de_bor (de_lst (da_cons (de_isi T rfl (de_varB (i := 0) rfl (.inl rfl) rfl rfl) (cl_own G_BadTable rfl rfl) rfl rfl rfl) (da_cons (de_isi T rfl (de_varB (i := 0) rfl (.inl rfl) rfl rfl) (cl_own G_BadSum rfl rfl) rfl rfl rfl) (da_cons (de_isi T rfl (de_varB (i := 0) rfl (.inl rfl) rfl rfl) (cl_own G_BadDeed rfl rfl) rfl rfl rfl) da_nil rfl) rfl) rfl))))) rfl (.inl rfl)) (ds_cons (dS_set (i := 1) (b := false) nd rfl (.inl rfl) (de_val (de_op (opD_add T.eK) (de_varB (i := 1) rfl (.inl rfl) rfl rfl) (de_bor (de_lst (da_cons (de_isi T rfl (de_varB (i := 0) rfl (.inl rfl) rfl rfl) (cl_own G_BadLive rfl rfl) rfl rfl rfl) (da_cons (de_isi T rfl (de_varB (i := 0) rfl (.inl rfl) rfl rfl) (cl_own G_BadName rfl rfl) rfl rfl rfl) (da_cons (de_isi T rfl (de_varB (i := 0) rfl (.inl rfl) rfl rfl) (cl_own G_BadStart rfl rfl) rfl rfl rfl) da_nil rfl) rfl) rfl))))) rfl (.inl rfl)) (ds_cons (dS_set (i := 1) (b := false) nd rfl (.inl rfl) (de_val (de_op (opD_add T.eK) (de_varB (i := 1) rfl (.inl rfl) rfl rfl) (de_bor (de_lst (da_cons (de_isi T rfl (de_varB (i := 0) rfl (.inl rfl) rfl rfl) (cl_own G_NothingLeft rfl rfl) rfl rfl rfl) (da_cons (de_isi T rfl (de_varB (i := 0) rfl (.inl rfl) rfl rfl) (cl_own G_BadRow rfl rfl) rfl rfl rfl) (da_cons (de_isi T rfl (de_varB (i := 0) rfl (.inl rfl) rfl rfl) (cl_own G_BadTower rfl rfl) rfl rfl rfl) da_nil rfl) rfl) rfl))))) rfl (.inl rfl)) (ds_cons (dS_set (i := 1) (b := false) nd rfl (.inl rfl) (de_val (de_op (opD_add T.eK) (de_varB (i := 1) rfl (.inl rfl) rfl rfl) (de_bor (de_lst (da_cons (de_isi T rfl (de_varB (i := 0) rfl (.inl rfl) rfl rfl) (cl_own G_BadWeights rfl rfl) rfl rfl rfl) (da_cons (de_isi T rfl (de_varB (i := 0) rfl (.inl rfl) rfl rfl) (cl_own G_BadNumber rfl rfl) rfl rfl rfl) (da_cons (de_isi T rfl (de_varB (i := 0) rfl (.inl rfl) rfl rfl) (cl_own G_BadBook rfl rfl) rfl rfl rfl) da_nil rfl) rfl) rfl))))) rfl (.inl rfl)) (ds_cons (dS_set (i := 1) (b := false) nd rfl (.inl rfl) (de_val (de_op (opD_add T.eK) (de_varB (i := 1) rfl (.inl rfl) rfl rfl) (de_bor (de_lst (da_cons (de_isi T rfl (de_varB (i := 0) rfl (.inl rfl) rfl rfl) (cl_own G_TooMany rfl rfl) rfl rfl rfl) (da_cons (de_isi T rfl (de_varB (i := 0) rfl (.inl rfl) rfl rfl) (cl_own G_BadText rfl rfl) rfl rfl rfl) (da_cons (de_isi T rfl (de_varB (i := 0) rfl (.inl rfl) rfl rfl) (cl_own G_NoWatch rfl rfl) rfl rfl rfl) da_nil rfl) rfl) rfl))))) rfl (.inl rfl)) (ds_cons (dS_ret (de_var (i := 1) rfl (.inl rfl) rfl rfl)) ds_nil))))))))
theorem fx_law_kinds (T : Kn K mg c kt) (G_BadPrime : Gc mg c "BadPrime" 1) (G_BadLot : Gc mg c "BadLot" 4) (G_BadThing : Gc mg c "BadThing" 5) (G_BadTable : Gc mg c "BadTable" 6) (G_BadSum : Gc mg c "BadSum" 7) (G_BadDeed : Gc mg c "BadDeed" 9) (G_BadLive : Gc mg c "BadLive" 10) (G_BadName : Gc mg c "BadName" 11) (G_BadStart : Gc mg c "BadStart" 12) (G_NothingLeft : Gc mg c "NothingLeft" 15) (G_BadRow : Gc mg c "BadRow" 16) (G_BadTower : Gc mg c "BadTower" 17) (G_BadWeights : Gc mg c "BadWeights" 18) (G_BadNumber : Gc mg c "BadNumber" 2) (G_BadBook : Gc mg c "BadBook" 3) (G_TooMany : Gc mg c "TooMany" 8) (G_BadText : Gc mg c "BadText" 13) (G_NoWatch : Gc mg c "NoWatch" 14) {f : Addr} {fd : FuncData} (hm : mg "_law_kinds" = some (.ref f)) (F : FunD K "_law_kinds" "_law_kinds" (defArgs (top 26)) (defBody (top 26)) (defScope (top 26)) [] [] f fd) : Fx P w K mg base c 1 "_law_kinds" .val ["_law_error"] fn_law_kinds :=
  ⟨⟨f, fd, hm, F.kp, F.bindsN fun _ _ _ _ _ _ us hl => match us, hl with | [_], _ => rfl, fnD F sc_law_kinds fun _ _ _ _ _ _ hr => b_law_kinds T G_BadPrime G_BadLot G_BadThing G_BadTable G_BadSum G_BadDeed G_BadLive G_BadName G_BadStart G_NothingLeft G_BadRow G_BadTower G_BadWeights G_BadNumber G_BadBook G_TooMany G_BadText G_NoWatch hr⟩, fnOf_len⟩

/-! ### _law_plain_errors -/
def g_law_plain_errors : StF := (fSeq (fAsg 1 false (eLst [])) (fSeq (fAsg 1 false (eBin addD (eVarB 1) (eLst [.one (eExP 1 (eVarB 0)), .one (eExP 4 (eVarB 0)), .one (eExP 5 (eVarB 0)), .one (eExP 6 (eVarB 0))]))) (fSeq (fAsg 1 false (eBin addD (eVarB 1) (eLst [.one (eExP 7 (eVarB 0)), .one (eExP 9 (eVarB 0)), .one (eExP 10 (eVarB 0)), .one (eExP 11 (eVarB 0))]))) (fSeq (fAsg 1 false (eBin addD (eVarB 1) (eLst [.one (eExP 12 (eVarB 0)), .one (eExP 15 (eVarB 0)), .one (eExP 16 (eVarB 0)), .one (eExP 17 (eVarB 0))]))) (fSeq (fAsg 1 false (eBin addD (eVarB 1) (eLst [.one (eExP 18 (eVarB 0))]))) (fSeq (fRet (eVar 1)) fSkip))))))
def fn_law_plain_errors : List D → M D := fnOf 2 1 g_law_plain_errors
theorem sc_law_plain_errors : FnScope ["_law_words_here", "_law_found"] ["_law_words_here"] (defScope (top 27)) := ⟨rfl, rfl, rfl, by decide +kernel, rfl, by decide +kernel, by decide +kernel⟩
theorem b_law_plain_errors (T : Kn K mg c kt) (XP_BadPrime : ExP K mg c "BadPrime" 1) (XP_BadLot : ExP K mg c "BadLot" 4) (XP_BadThing : ExP K mg c "BadThing" 5) (XP_BadTable : ExP K mg c "BadTable" 6) (XP_BadSum : ExP K mg c "BadSum" 7) (XP_BadDeed : ExP K mg c "BadDeed" 9) (XP_BadLive : ExP K mg c "BadLive" 10) (XP_BadName : ExP K mg c "BadName" 11) (XP_BadStart : ExP K mg c "BadStart" 12) (XP_NothingLeft : ExP K mg c "NothingLeft" 15) (XP_BadRow : ExP K mg c "BadRow" 16) (XP_BadTower : ExP K mg c "BadTower" 17) (XP_BadWeights : ExP K mg c "BadWeights" 18) {f : Addr} {cdv : Value} {A : Around} {outer : List PySem.Env} {s : Shared} {H : Hp} {E : XK} (hr : Room 0 (A.deeper (envOfC "_law_plain_errors" (defScope (top 27)) s.heap.objs.size f cdv))) :
    PSs (cxOf (L2.CX P w) P w K mg base ["_law_words_here", "_law_found"] "_law_plain_errors" (defScope (top 27)) f cdv A outer s H E) (defBody (top 27)) (tS c E .val g_law_plain_errors) := by
  have hu := room_u hr
  have nd := sc_law_plain_errors.nd
  have po : PassesOwn (model P w) (A.deeper (envOfC "_law_plain_errors" (defScope (top 27)) s.heap.objs.size f cdv)) (envOfC "_law_plain_errors" (defScope (top 27)) s.heap.objs.size f cdv) (cxOf (L2.CX P w) P w K mg base ["_law_words_here", "_law_found"] "_law_plain_errors" (defScope (top 27)) f cdv A outer s H E).xe := passes_of rfl
  have px : Passes (L2.CX P w) (cxOf (L2.CX P w) P w K mg base ["_law_words_here", "_law_found"] "_law_plain_errors" (defScope (top 27)) f cdv A outer s H E) E := passes_call (takes_of rfl rfl rfl rfl) fun _ _ _ _ h => h
  exact (ds_cons (dS_set (i := 1) (b := false) nd rfl (.inl rfl) (de_val (de_lst da_nil)) rfl (.inl rfl)) (ds_cons (dS_set (i := 1) (b := false) nd rfl (.inl rfl) (de_val (de_op (opD_add T.eK) (de_varB (i := 1) rfl (.inl rfl) rfl rfl) (de_bor (de_lst (da_cons (de_exP XP_BadPrime rfl (de_varB (i := 0) rfl (.inl rfl) rfl rfl) rfl rfl) (da_cons (de_exP XP_BadLot rfl (de_varB (i := 0) rfl (.inl rfl) rfl rfl) rfl rfl) (da_cons (de_exP XP_BadThing rfl (de_varB (i := 0) rfl (.inl rfl) rfl rfl) rfl rfl) (da_cons (de_exP XP_BadTable rfl (de_varB (i := 0) rfl (.inl rfl) rfl rfl) rfl rfl) da_nil rfl) rfl) rfl) rfl))))) rfl (.inl rfl)) (ds_cons (dS_set (i := 1) (b := false) nd rfl (.inl rfl) (de_val (de_op (opD_add T.eK) (de_varB (i := 1) rfl (.inl rfl) rfl rfl) (de_bor (de_lst (da_cons (de_exP XP_BadSum rfl (de_varB (i := 0) rfl (.inl rfl) rfl rfl) rfl rfl) (da_cons (de_exP XP_BadDeed rfl (de_varB (i := 0) rfl (.inl rfl) rfl rfl) rfl rfl) (da_cons (de_exP XP_BadLive rfl (de_varB (i := 0) rfl (.inl rfl) rfl rfl) rfl rfl) (da_cons (de_exP XP_BadName rfl (de_varB (i := 0) rfl (.inl rfl) rfl rfl) rfl rfl) da_nil rfl) rfl) rfl) rfl))))) rfl (.inl rfl)) (ds_cons (dS_set (i := 1) (b := false) nd rfl (.inl rfl) (de_val (de_op (opD_add T.eK) (de_varB (i := 1) rfl (.inl rfl) rfl rfl) (de_bor (de_lst (da_cons (de_exP XP_BadStart rfl (de_varB (i := 0) rfl (.inl rfl) rfl rfl) rfl rfl) (da_cons (de_exP XP_NothingLeft rfl (de_varB (i := 0) rfl (.inl rfl) rfl rfl) rfl rfl) (da_cons (de_exP XP_BadRow rfl (de_varB (i := 0) rfl (.inl rfl) rfl rfl) rfl rfl) (da_cons (de_exP XP_BadTower rfl (de_varB (i := 0) rfl (.inl rfl) rfl rfl) rfl rfl) da_nil rfl) rfl) rfl) rfl))))) rfl (.inl rfl)) (ds_cons (dS_set (i := 1) (b := false) nd rfl (.inl rfl) (de_val (de_op (opD_add T.eK) (de_varB (i := 1) rfl (.inl rfl) rfl rfl) (de_bor (de_lst (da_cons (de_exP XP_BadWeights rfl (de_varB (i := 0) rfl (.inl rfl) rfl rfl) rfl rfl) da_nil rfl))))) rfl (.inl rfl)) (ds_cons (dS_ret (de_var (i := 1) rfl (.inl rfl) rfl rfl)) ds_nil))))))
theorem fx_law_plain_errors (T : Kn K mg c kt) (XP_BadPrime : ExP K mg c "BadPrime" 1) (XP_BadLot : ExP K mg c "BadLot" 4) (XP_BadThing : ExP K mg c "BadThing" 5) (XP_BadTable : ExP K mg c "BadTable" 6) (XP_BadSum : ExP K mg c "BadSum" 7) (XP_BadDeed : ExP K mg c "BadDeed" 9) (XP_BadLive : ExP K mg c "BadLive" 10) (XP_BadName : ExP K mg c "BadName" 11) (XP_BadStart : ExP K mg c "BadStart" 12) (XP_NothingLeft : ExP K mg c "NothingLeft" 15) (XP_BadRow : ExP K mg c "BadRow" 16) (XP_BadTower : ExP K mg c "BadTower" 17) (XP_BadWeights : ExP K mg c "BadWeights" 18) {f : Addr} {fd : FuncData} (hm : mg "_law_plain_errors" = some (.ref f)) (F : FunD K "_law_plain_errors" "_law_plain_errors" (defArgs (top 27)) (defBody (top 27)) (defScope (top 27)) [] [] f fd) : Fx P w K mg base c 1 "_law_plain_errors" .val ["_law_words_here"] fn_law_plain_errors :=
  ⟨⟨f, fd, hm, F.kp, F.bindsN fun _ _ _ _ _ _ us hl => match us, hl with | [_], _ => rfl, fnD F sc_law_plain_errors fun _ _ _ _ _ _ hr => b_law_plain_errors T XP_BadPrime XP_BadLot XP_BadThing XP_BadTable XP_BadSum XP_BadDeed XP_BadLive XP_BadName XP_BadStart XP_NothingLeft XP_BadRow XP_BadTower XP_BadWeights hr⟩, fnOf_len⟩

/-! ### _law_errors_of -/
def g_law_errors_of : StF := (fSeq (fAsg 1 true (eLst [])) (fSeq (fAppend 1 (eTup [.one (eExF 2 (eVar 0)), .one (eFld clsNm "part" (eExF 2 (eVar 0))), .one (eFld clsNm "part" (eExF 2 (eVar 0)))])) (fSeq (fAppend 1 (eTup [.one (eExF 3 (eVar 0)), .one (eFld clsNm "part" (eExF 3 (eVar 0))), .one (eFld clsNm "part" (eExF 3 (eVar 0)))])) (fSeq (fAppend 1 (eTup [.one (eExF 8 (eVar 0)), .one (eFld clsNm "most" (eExF 8 (eVar 0))), .one (eFld clsNm "most" (eExF 8 (eVar 0)))])) (fSeq (fAppend 1 (eTup [.one (eExF 13 (eVar 0)), .one (eFld clsNm "at" (eExF 13 (eVar 0))), .one (eFld clsNm "at" (eExF 13 (eVar 0)))])) (fSeq (fAppend 1 (eTup [.one (eExF 14 (eVar 0)), .one (eFld clsNm "name" (eExF 14 (eVar 0))), .one (eFld clsNm "name" (eExF 14 (eVar 0)))])) (fSeq (fRetOwn 1) fSkip)))))))
def fn_law_errors_of : List D → M D := fnOf 2 1 g_law_errors_of
theorem sc_law_errors_of : FnScope ["_law_each", "_law_found"] ["_law_each"] (defScope (top 28)) := ⟨rfl, rfl, rfl, by decide +kernel, rfl, by decide +kernel, by decide +kernel⟩
theorem b_law_errors_of (T : Kn K mg c kt) (XF_BadNumber : ExK P w K mg base c "BadNumber" 2 "part") (XF_BadBook : ExK P w K mg base c "BadBook" 3 "part") (XF_TooMany : ExK P w K mg base c "TooMany" 8 "most") (XF_BadText : ExK P w K mg base c "BadText" 13 "at") (XF_NoWatch : ExK P w K mg base c "NoWatch" 14 "name") (HN : ∀ k C fs, (c : Cfg).cls k = some (C, fs) → clsNm k = fs) (HA_part : ∀ k C fs, (c : Cfg).cls k = some (C, fs) → ("part" : Str) ∈ fs → XfC K C ∧ PySem.W.findIn K (.ref C) "part" = some none) (HA_most : ∀ k C fs, (c : Cfg).cls k = some (C, fs) → ("most" : Str) ∈ fs → XfC K C ∧ PySem.W.findIn K (.ref C) "most" = some none) (HA_at : ∀ k C fs, (c : Cfg).cls k = some (C, fs) → ("at" : Str) ∈ fs → XfC K C ∧ PySem.W.findIn K (.ref C) "at" = some none) (HA_name : ∀ k C fs, (c : Cfg).cls k = some (C, fs) → ("name" : Str) ∈ fs → XfC K C ∧ PySem.W.findIn K (.ref C) "name" = some none) {f : Addr} {cdv : Value} {A : Around} {outer : List PySem.Env} {s : Shared} {H : Hp} {E : XK} (hr : Room 2 (A.deeper (envOfC "_law_errors_of" (defScope (top 28)) s.heap.objs.size f cdv))) :
    PSs (cxOf (L2.CX P w) P w K mg base ["_law_each", "_law_found"] "_law_errors_of" (defScope (top 28)) f cdv A outer s H E) (defBody (top 28)) (tS c E .own g_law_errors_of) := by
  have hu := room_u hr
  have nd := sc_law_errors_of.nd
  have po : PassesOwn (model P w) (A.deeper (envOfC "_law_errors_of" (defScope (top 28)) s.heap.objs.size f cdv)) (envOfC "_law_errors_of" (defScope (top 28)) s.heap.objs.size f cdv) (cxOf (L2.CX P w) P w K mg base ["_law_each", "_law_found"] "_law_errors_of" (defScope (top 28)) f cdv A outer s H E).xe := passes_of rfl
  have px : Passes (L2.CX P w) (cxOf (L2.CX P w) P w K mg base ["_law_each", "_law_found"] "_law_errors_of" (defScope (top 28)) f cdv A outer s H E) E := passes_call (takes_of rfl rfl rfl rfl) fun _ _ _ _ h => h
  exact (ds_cons (dS_set (i := 1) (b := true) nd rfl (.inl rfl) (de_lst da_nil) rfl (.inl rfl)) (ds_cons (dS_append (i := 1) rfl (.inl rfl) rfl rfl (de_tup (da_cons (de_exF XF_BadNumber (hr.mono (by decide)) rfl px (de_var (i := 0) rfl (.inl rfl) rfl rfl) rfl rfl) (da_cons (de_fld HN HA_part (de_exF XF_BadNumber (hr.mono (by decide)) rfl px (de_var (i := 0) rfl (.inl rfl) rfl rfl) rfl rfl) rfl) (da_cons (de_fld HN HA_part (de_exFk XF_BadNumber (hr.mono (by decide)) rfl px (de_var (i := 0) rfl (.inl rfl) rfl rfl) rfl rfl rfl rfl) rfl) da_nil rfl) rfl) rfl)) rfl rfl rfl rfl rfl rfl) (ds_cons (dS_append (i := 1) rfl (.inl rfl) rfl rfl (de_tup (da_cons (de_exF XF_BadBook (hr.mono (by decide)) rfl px (de_var (i := 0) rfl (.inl rfl) rfl rfl) rfl rfl) (da_cons (de_fld HN HA_part (de_exF XF_BadBook (hr.mono (by decide)) rfl px (de_var (i := 0) rfl (.inl rfl) rfl rfl) rfl rfl) rfl) (da_cons (de_fld HN HA_part (de_exFk XF_BadBook (hr.mono (by decide)) rfl px (de_var (i := 0) rfl (.inl rfl) rfl rfl) rfl rfl rfl rfl) rfl) da_nil rfl) rfl) rfl)) rfl rfl rfl rfl rfl rfl) (ds_cons (dS_append (i := 1) rfl (.inl rfl) rfl rfl (de_tup (da_cons (de_exF XF_TooMany (hr.mono (by decide)) rfl px (de_var (i := 0) rfl (.inl rfl) rfl rfl) rfl rfl) (da_cons (de_fld HN HA_most (de_exF XF_TooMany (hr.mono (by decide)) rfl px (de_var (i := 0) rfl (.inl rfl) rfl rfl) rfl rfl) rfl) (da_cons (de_fld HN HA_most (de_exFk XF_TooMany (hr.mono (by decide)) rfl px (de_var (i := 0) rfl (.inl rfl) rfl rfl) rfl rfl rfl rfl) rfl) da_nil rfl) rfl) rfl)) rfl rfl rfl rfl rfl rfl) (ds_cons (dS_append (i := 1) rfl (.inl rfl) rfl rfl (de_tup (da_cons (de_exF XF_BadText (hr.mono (by decide)) rfl px (de_var (i := 0) rfl (.inl rfl) rfl rfl) rfl rfl) (da_cons (de_fld HN HA_at (de_exF XF_BadText (hr.mono (by decide)) rfl px (de_var (i := 0) rfl (.inl rfl) rfl rfl) rfl rfl) rfl) (da_cons (de_fld HN HA_at (de_exFk XF_BadText (hr.mono (by decide)) rfl px (de_var (i := 0) rfl (.inl rfl) rfl rfl) rfl rfl rfl rfl) rfl) da_nil rfl) rfl) rfl)) rfl rfl rfl rfl rfl rfl) (ds_cons (dS_append (i := 1) rfl (.inl rfl) rfl rfl (de_tup (da_cons (de_exF XF_NoWatch (hr.mono (by decide)) rfl px (de_var (i := 0) rfl (.inl rfl) rfl rfl) rfl rfl) (da_cons (de_fld HN HA_name (de_exF XF_NoWatch (hr.mono (by decide)) rfl px (de_var (i := 0) rfl (.inl rfl) rfl rfl) rfl rfl) rfl) (da_cons (de_fld HN HA_name (de_exFk XF_NoWatch (hr.mono (by decide)) rfl px (de_var (i := 0) rfl (.inl rfl) rfl rfl) rfl rfl rfl rfl) rfl) da_nil rfl) rfl) rfl)) rfl rfl rfl rfl rfl rfl) (ds_cons (dS_retOwn (i := 1) rfl (.inl rfl) rfl rfl) ds_nil)))))))
theorem fx_law_errors_of (T : Kn K mg c kt) (XF_BadNumber : ExK P w K mg base c "BadNumber" 2 "part") (XF_BadBook : ExK P w K mg base c "BadBook" 3 "part") (XF_TooMany : ExK P w K mg base c "TooMany" 8 "most") (XF_BadText : ExK P w K mg base c "BadText" 13 "at") (XF_NoWatch : ExK P w K mg base c "NoWatch" 14 "name") (HN : ∀ k C fs, (c : Cfg).cls k = some (C, fs) → clsNm k = fs) (HA_part : ∀ k C fs, (c : Cfg).cls k = some (C, fs) → ("part" : Str) ∈ fs → XfC K C ∧ PySem.W.findIn K (.ref C) "part" = some none) (HA_most : ∀ k C fs, (c : Cfg).cls k = some (C, fs) → ("most" : Str) ∈ fs → XfC K C ∧ PySem.W.findIn K (.ref C) "most" = some none) (HA_at : ∀ k C fs, (c : Cfg).cls k = some (C, fs) → ("at" : Str) ∈ fs → XfC K C ∧ PySem.W.findIn K (.ref C) "at" = some none) (HA_name : ∀ k C fs, (c : Cfg).cls k = some (C, fs) → ("name" : Str) ∈ fs → XfC K C ∧ PySem.W.findIn K (.ref C) "name" = some none) {f : Addr} {fd : FuncData} (hm : mg "_law_errors_of" = some (.ref f)) (F : FunD K "_law_errors_of" "_law_errors_of" (defArgs (top 28)) (defBody (top 28)) (defScope (top 28)) [] [] f fd) : Fx P w K mg base c 3 "_law_errors_of" .own ["_law_each"] fn_law_errors_of :=
  ⟨⟨f, fd, hm, F.kp, F.bindsN fun _ _ _ _ _ _ us hl => match us, hl with | [_], _ => rfl, fnD F sc_law_errors_of fun _ _ _ _ _ _ hr => b_law_errors_of T XF_BadNumber XF_BadBook XF_TooMany XF_BadText XF_NoWatch HN HA_part HA_most HA_at HA_name hr⟩, fnOf_len⟩

/-! ### law -/
def g_law : StF := (fSeq (fPar [2, 3] [(false, (eCall fn_law_pick [.one (eVar 1), .one (eLst [.one (eC (.str "")), .one (eC (.str "w")), .one (eC (.str "nothing of the kind"))])])), (false, (eCall fn_law_any [.one (eVar 1)]))]) (fSeq (fAsg 4 false (eCall fn_law_errors_of [.one (eVar 3)])) (fSeq (fAsg 5 false (eBin addD (eCall fn_law_plain_errors [.one (eVar 2)]) (eLc [9] (sSeq (eVarB 4)) (.name 9) none (eBin idxD (eVarB 9) (eC (.int 0)))))) (fSeq (fFor (.tup [6, 7]) (sB enumOf [.one (eVar 5)]) (fSeq (fIf (eBin gNe (eCall fn_law_kinds [.one (eVar 7)]) (eLc [10] (sB range1 [.one (eC (.int 18))]) (.name 10) none (eBin gEq (eVarB 10) (eVarB 6)))) (fSeq (fRet (eC (.bl false))) fSkip) fSkip) (fSeq (fIf (eOr (eNot (eIsi kt [.own 0] (eVarB 7))) (eNot (eIsi kt [.bi "ValueError"] (eVarB 7)))) (fSeq (fRet (eC (.bl false))) fSkip) fSkip) fSkip))) (fSeq (fIf (eBin gNe (eLc [9] (sSeq (eVarB 4)) (.name 9) (some (eBin gNe (eReprL [.one (eBin idxD (eVarB 9) (eC (.int 1))), .one (eBin idxD (eVarB 9) (eC (.int 2)))]) (eReprL [.one (eVar 3), .one (eVar 3)]))) (eC (.int 1))) (eLst [])) (fSeq (fRet (eC (.bl false))) fSkip) fSkip) (fSeq (fAsg 8 false (eExP 0 (eC (.str "w")))) (fSeq (fRet (eAnd (eBin gNotIn (eC (.bl true)) (eCall fn_law_kinds [.one (eVar 8)])) (eIsi kt [.bi "ValueError"] (eVarB 8)))) fSkip)))))))
theorem sc_law : FnScope ["_law_script", "_law_draw", "_law_words_here", "_law_each", "_law_threes_here", "_law_errors_here", "_law_spot", "_law_error", "_law_base_here", "_law_item", "_law_k"] ["_law_script"] (defScope (top 29)) := ⟨rfl, rfl, rfl, by decide +kernel, rfl, by decide +kernel, by decide +kernel⟩
theorem b_law (hc : c.dr = none) (AT : ∀ dr, Kn K mg { c with dr := dr } kt) (AG_FlatError : ∀ dr, Gc mg { c with dr := dr } "FlatError" 0) (AXP_FlatError : ∀ dr, ExP K mg { c with dr := dr } "FlatError" 0) (AH_law_pick : ∀ dr, Fx P w K mg base { c with dr := dr } 3 "_law_pick" .val ["_law_draw", "_law_some"] fn_law_pick) (AH_law_any : ∀ dr, Fx P w K mg base { c with dr := dr } 4 "_law_any" .val ["_law_draw"] fn_law_any) (AH_law_errors_of : ∀ dr, Fx P w K mg base { c with dr := dr } 3 "_law_errors_of" .own ["_law_each"] fn_law_errors_of) (AH_law_plain_errors : ∀ dr, Fx P w K mg base { c with dr := dr } 1 "_law_plain_errors" .val ["_law_words_here"] fn_law_plain_errors) (AH_law_kinds : ∀ dr, Fx P w K mg base { c with dr := dr } 1 "_law_kinds" .val ["_law_error"] fn_law_kinds) {fb : Addr} {fdb : FuncData} (hmb : mg "_law_begun" = some (.ref fb)) (FB : FunD K "_law_begun" "_law_begun" (defArgs (top 21)) (defBody (top 21)) (defScope (top 21)) [] [] fb fdb) {f : Addr} {cdv : Value} {A : Around} {outer : List PySem.Env} {s : Shared} {H : Hp} {E : XK} (hr : Room 4 (A.deeper (envOfC "law" (defScope (top 29)) s.heap.objs.size f cdv))) (hgd : (A.deeper (envOfC "law" (defScope (top 29)) s.heap.objs.size f cdv)).guards = some []) :
    PSs (cxOf (L2.CX P w) P w K mg base ["_law_script", "_law_draw", "_law_words_here", "_law_each", "_law_threes_here", "_law_errors_here", "_law_spot", "_law_error", "_law_base_here", "_law_item", "_law_k"] "law" (defScope (top 29)) f cdv A outer s H E) (defBody (top 29)) (tLaw c f1_begun fc_begun g_law 2 9) := by
  have hu := room_u hr
  have nd := sc_law.nd
  have po : PassesOwn (model P w) (A.deeper (envOfC "law" (defScope (top 29)) s.heap.objs.size f cdv)) (envOfC "law" (defScope (top 29)) s.heap.objs.size f cdv) (cxOf (L2.CX P w) P w K mg base ["_law_script", "_law_draw", "_law_words_here", "_law_each", "_law_threes_here", "_law_errors_here", "_law_spot", "_law_error", "_law_base_here", "_law_item", "_law_k"] "law" (defScope (top 29)) f cdv A outer s H E).xe := passes_of rfl
  have px : Passes (L2.CX P w) (cxOf (L2.CX P w) P w K mg base ["_law_script", "_law_draw", "_law_words_here", "_law_each", "_law_threes_here", "_law_errors_here", "_law_spot", "_law_error", "_law_base_here", "_law_item", "_law_k"] "law" (defScope (top 29)) f cdv A outer s H E) E := passes_call (takes_of rfl rfl rfl rfl) fun _ _ _ _ h => h
  have T0 : Kn K mg c kt := by have := AT none; rw [show ({ c with dr := none } : Cfg) = c by rw [← hc]] at this; exact this
  refine law_body (k := 1) nd rfl rfl (.inl rfl) (.inl rfl) rfl rfl (.inl rfl) (fx_begun0 T0 FB) hr (by decide) rfl hmb FB.kp (FB.bindsN fun _ _ _ _ _ _ us hl => match us, hl with | [_], _ => rfl) px rfl rfl rfl fun d l e => ?_
  have T := AT (some (d, l, e)); have G_FlatError := AG_FlatError (some (d, l, e)); have XP_FlatError := AXP_FlatError (some (d, l, e)); have H_law_pick := AH_law_pick (some (d, l, e)); have H_law_any := AH_law_any (some (d, l, e)); have H_law_errors_of := AH_law_errors_of (some (d, l, e)); have H_law_plain_errors := AH_law_plain_errors (some (d, l, e)); have H_law_kinds := AH_law_kinds (some (d, l, e))
  exact (ds_cons (dS_par (is := [2, 3]) rfl (dp_cons (b := false) (de_call H_law_pick hr (by decide) rfl px (da_cons (de_var (i := 1) rfl (.inl rfl) rfl rfl) (da_cons (de_val (de_lst (da_cons de_str (da_cons de_str (da_cons de_str da_nil rfl) rfl) rfl))) da_nil rfl) rfl) rfl rfl rfl) (dp_cons (b := false) (de_call H_law_any hr (by decide) rfl px (da_cons (de_var (i := 1) rfl (.inl rfl) rfl rfl) da_nil rfl) rfl rfl rfl) dp_nil rfl) rfl) (dgP_cons (i := 2) nd rfl (.inl rfl) (.inl rfl) (dgP_cons (i := 3) nd rfl (.inr rfl) (.inl rfl) dgP_nil rfl) rfl) rfl rfl (by decide) rfl rfl rfl) (ds_cons (dS_set (i := 4) (b := false) nd rfl (.inl rfl) (de_val (de_call H_law_errors_of hr (by decide) rfl px (da_cons (de_var (i := 3) rfl (.inr (.inl rfl)) rfl rfl) da_nil rfl) rfl rfl rfl)) rfl (.inl rfl)) (ds_cons (dS_set (i := 5) (b := false) nd rfl (.inl rfl) (de_val (de_op (opD_add T.eK) (de_up (de_call H_law_plain_errors hr (by decide) rfl px (da_cons (de_var (i := 2) rfl (.inl rfl) rfl rfl) da_nil rfl) rfl rfl rfl)) (de_bor (de_lc rfl nd (di_seq T.eK (de_varB (i := 4) rfl (.inl rfl) rfl rfl)) (own := [("_law_item", 9)]) (blk_of (N := ["_law_script", "_law_draw", "_law_words_here", "_law_each", "_law_threes_here", "_law_errors_here", "_law_spot", "_law_error", "_law_base_here", "_law_item", "_law_k"]) [("_law_script", .local), ("_law_draw", .local), ("_law_words_here", .local), ("_law_each", .cell), ("_law_threes_here", .local), ("_law_errors_here", .local), ("_law_spot", .cell), ("_law_error", .local), ("_law_base_here", .local), ("_law_begun", .globalImplicit), ("_law_pick", .globalImplicit), ("_law_any", .globalImplicit), ("_law_errors_of", .globalImplicit), ("_law_plain_errors", .globalImplicit), ("enumerate", .globalImplicit), ("_law_kinds", .globalImplicit), ("range", .globalImplicit), ("isinstance", .globalImplicit), ("FlatError", .globalImplicit), ("ValueError", .globalImplicit)] rfl (by decide +kernel)) (fun _ _ _ _ _ => (dg_name (i := 9) nd rfl (.inl rfl) (.inr rfl))) (fun _ _ _ _ _ => pts_nil) (fun _ _ _ _ _ => (de_ix T.eK hu (de_varB (i := 9) rfl (.inl rfl) rfl rfl) de_int (fun _ _ => rfl))) (by decide) (fun _ => rfl))))) rfl (.inl rfl)) (ds_cons (dS_for po rfl (di_enum rfl T.b.enumerate (da_cons (de_var (i := 5) rfl (.inl rfl) rfl rfl) da_nil rfl) rfl) (dg_tup rfl (dgs_cons (dg_name (i := 6) nd rfl (.inr rfl) (.inl rfl)) (dgs_cons (dg_name (i := 7) nd rfl (.inl rfl) (.inr rfl)) dgs_nil rfl) rfl) rfl rfl) (ds_cons (dS_if (dt_cmp (opD_ne T.eK hu) (de_up (de_call H_law_kinds hr (by decide) rfl px (da_cons (de_var (i := 7) rfl (.inl rfl) rfl rfl) da_nil rfl) rfl rfl rfl)) (de_bor (de_lc rfl nd (di_range1 rfl T.b.range (da_cons de_int da_nil rfl) rfl) (own := [("_law_k", 10)]) (blk_of (N := ["_law_script", "_law_draw", "_law_words_here", "_law_each", "_law_threes_here", "_law_errors_here", "_law_spot", "_law_error", "_law_base_here", "_law_item", "_law_k"]) [("_law_script", .local), ("_law_draw", .local), ("_law_words_here", .local), ("_law_each", .cell), ("_law_threes_here", .local), ("_law_errors_here", .local), ("_law_spot", .cell), ("_law_error", .local), ("_law_base_here", .local), ("_law_begun", .globalImplicit), ("_law_pick", .globalImplicit), ("_law_any", .globalImplicit), ("_law_errors_of", .globalImplicit), ("_law_plain_errors", .globalImplicit), ("enumerate", .globalImplicit), ("_law_kinds", .globalImplicit), ("range", .globalImplicit), ("isinstance", .globalImplicit), ("FlatError", .globalImplicit), ("ValueError", .globalImplicit)] rfl (by decide +kernel)) (fun _ _ _ _ _ => (dg_name (i := 10) nd rfl (.inl rfl) (.inr rfl))) (fun _ _ _ _ _ => pts_nil) (fun _ _ _ _ _ => (de_val (de_cmp (opD_eq T.eK hu) (de_varB (i := 10) rfl (.inl rfl) rfl rfl) (de_varB (i := 6) rfl (.inr (.inl rfl)) rfl rfl) rfl))) (by decide) (fun _ => rfl))) rfl) (ds_cons (dS_ret de_bl) ds_nil) ds_nil) (ds_cons (dS_if (L2.PW.pt (dw_or (dt_not (dt_val (de_isi T rfl (de_varB (i := 7) rfl (.inl rfl) rfl rfl) (cl_own G_FlatError rfl rfl) rfl rfl rfl) (fun _ => rfl))) (dw_one_or (dt_not (dt_val (de_isi T rfl (de_varB (i := 7) rfl (.inl rfl) rfl rfl) (cl_bi (T := "ValueError") rfl T.b.ValueError (by decide +kernel) (by decide) rfl) rfl rfl rfl) (fun _ => rfl)))))) (ds_cons (dS_ret de_bl) ds_nil) ds_nil) ds_nil)) (fun _ => rfl)) (ds_cons (dS_if (dt_cmp (opD_ne T.eK hu) (de_bor (de_lc rfl nd (di_seq T.eK (de_varB (i := 4) rfl (.inl rfl) rfl rfl)) (own := [("_law_item", 9)]) (blk_of (N := ["_law_script", "_law_draw", "_law_words_here", "_law_each", "_law_threes_here", "_law_errors_here", "_law_spot", "_law_error", "_law_base_here", "_law_item", "_law_k"]) [("_law_script", .local), ("_law_draw", .local), ("_law_words_here", .local), ("_law_each", .cell), ("_law_threes_here", .local), ("_law_errors_here", .local), ("_law_spot", .cell), ("_law_error", .local), ("_law_base_here", .local), ("_law_begun", .globalImplicit), ("_law_pick", .globalImplicit), ("_law_any", .globalImplicit), ("_law_errors_of", .globalImplicit), ("_law_plain_errors", .globalImplicit), ("enumerate", .globalImplicit), ("_law_kinds", .globalImplicit), ("range", .globalImplicit), ("isinstance", .globalImplicit), ("FlatError", .globalImplicit), ("ValueError", .globalImplicit)] rfl (by decide +kernel)) (fun _ _ _ _ _ => (dg_name (i := 9) nd rfl (.inl rfl) (.inr rfl))) (fun _ _ _ _ _ => (pts_one (dt_cmp (opD_ne T.eK hu) (de_reprL hgd hr rfl T.b.repr (da_cons (de_ix T.eK hu (de_varB (i := 9) rfl (.inl rfl) rfl rfl) de_int (fun _ _ => rfl)) (da_cons (de_ix T.eK hu (de_varB (i := 9) rfl (.inl rfl) rfl rfl) de_int (fun _ _ => rfl)) da_nil rfl) rfl) rfl) (de_reprL hgd hr rfl T.b.repr (da_cons (de_var (i := 3) rfl (.inr (.inl rfl)) rfl rfl) (da_cons (de_var (i := 3) rfl (.inr (.inl rfl)) rfl rfl) da_nil rfl) rfl) rfl) rfl))) (fun _ _ _ _ _ => de_int) (by decide) (fun _ => rfl))) (de_bor (de_lst da_nil)) rfl) (ds_cons (dS_ret de_bl) ds_nil) ds_nil) (ds_cons (dS_set (i := 8) (b := false) nd rfl (.inl rfl) (de_exP XP_FlatError rfl de_str rfl rfl) rfl (.inl rfl)) (ds_cons (dS_ret (de_and (de_bor (de_cmp (opD_notIn T.eK hu) de_bl (de_up (de_call H_law_kinds hr (by decide) rfl px (da_cons (de_var (i := 8) rfl (.inl rfl) rfl rfl) da_nil rfl) rfl rfl rfl)) rfl)) (de_one (de_isi T rfl (de_varB (i := 8) rfl (.inl rfl) rfl rfl) (cl_bi (T := "ValueError") rfl T.b.ValueError (by decide +kernel) (by decide) rfl) rfl rfl rfl)))) ds_nil)))))))
theorem ra_law (hc : c.dr = none) (AT : ∀ dr, Kn K mg { c with dr := dr } kt) (AG_FlatError : ∀ dr, Gc mg { c with dr := dr } "FlatError" 0) (AXP_FlatError : ∀ dr, ExP K mg { c with dr := dr } "FlatError" 0) (AH_law_pick : ∀ dr, Fx P w K mg base { c with dr := dr } 3 "_law_pick" .val ["_law_draw", "_law_some"] fn_law_pick) (AH_law_any : ∀ dr, Fx P w K mg base { c with dr := dr } 4 "_law_any" .val ["_law_draw"] fn_law_any) (AH_law_errors_of : ∀ dr, Fx P w K mg base { c with dr := dr } 3 "_law_errors_of" .own ["_law_each"] fn_law_errors_of) (AH_law_plain_errors : ∀ dr, Fx P w K mg base { c with dr := dr } 1 "_law_plain_errors" .val ["_law_words_here"] fn_law_plain_errors) (AH_law_kinds : ∀ dr, Fx P w K mg base { c with dr := dr } 1 "_law_kinds" .val ["_law_error"] fn_law_kinds) {fb : Addr} {fdb : FuncData} (hmb : mg "_law_begun" = some (.ref fb)) (FB : FunD K "_law_begun" "_law_begun" (defArgs (top 21)) (defBody (top 21)) (defScope (top 21)) [] [] fb fdb) {f : Addr} {fd : FuncData} (F : FunD K "law" "law" (defArgs (top 29)) (defBody (top 29)) (defScope (top 29)) [] [] f fd) :
    RunAt P w K mg base callerA f fd ["_law_script"] (spLaw c f1_begun fc_begun g_law 2 9) :=
  run_law (k := 4) F sc_law rfl (by constructor <;> decide +kernel) fun _ _ _ _ _ hr hg => b_law hc AT AG_FlatError AXP_FlatError AH_law_pick AH_law_any AH_law_errors_of AH_law_plain_errors AH_law_kinds hmb FB hr hg

end
end
end T00


namespace T00
noncomputable section
open PySem PySem.Spec PyProof.Rows L2 Mn
open Mn (D Env)
def dd (x : Str) (i : Nat) : He.DefD := ⟨(x, none), x, x, defArgs (top i), defBody (top i), defScope (top i), [], []⟩
def initOf (s : Stmt) : Stmt := match s with
  | .ClassDef _ _ _ b _ _ _ _ _ _ _ => b.getD 0 (.Pass ⟨0, 0, 0, 0⟩)
  | s => s
def di (x y q : Str) (i : Nat) : Hm.IniD := ⟨x, y, q, defArgs (initOf (top i)), defBody (initOf (top i)), defScope (initOf (top i))⟩
def fnl : List He.DefD := [dd "_law_begun" 21, dd "_law_mixed" 22, dd "_law_take" 23, dd "_law_pick" 24, dd "_law_any" 25, dd "_law_kinds" 26, dd "_law_plain_errors" 27, dd "_law_errors_of" 28, dd "law" 29]
def fal : List He.Fa := [.glo "_law_begun", .glo "_law_mixed", .glo "_law_take", .glo "_law_pick", .glo "_law_any", .glo "_law_kinds", .glo "_law_plain_errors", .glo "_law_errors_of", .glo "law", .glo "FlatError", .glo "BadPrime", .glo "BadNumber", .glo "BadBook", .glo "BadLot", .glo "BadThing", .glo "BadTable", .glo "BadSum", .glo "TooMany", .glo "BadDeed", .glo "BadLive", .glo "BadName", .glo "BadStart", .glo "BadText", .glo "NoWatch", .glo "NothingLeft", .glo "BadRow", .glo "BadTower", .glo "BadWeights", .exc "FlatError", .exc "BadPrime", .exc "BadLot", .exc "BadThing", .exc "BadTable", .exc "BadSum", .exc "BadDeed", .exc "BadLive", .exc "BadName", .exc "BadStart", .exc "NothingLeft", .exc "BadRow", .exc "BadTower", .exc "BadWeights", .free "len", .free "range", .free "list", .free "tuple", .free "all", .free "any", .free "sum", .free "max", .free "min", .free "abs", .free "int", .free "enumerate", .free "zip", .free "sorted", .free "set", .free "dict", .free "repr", .free "isinstance", .free "bool", .free "str", .free "ValueError", .free "super"]
def inl : List Hm.IniD := [di "BadNumber" "part" "BadNumber.__init__" 3, di "BadBook" "part" "BadBook.__init__" 4, di "TooMany" "most" "TooMany.__init__" 9, di "BadText" "at" "BadText.__init__" 14, di "NoWatch" "name" "NoWatch.__init__" 15]
def loose : List PySem.Str := (["FlatError", "BadPrime", "BadNumber", "BadBook", "BadLot", "BadThing", "BadTable", "BadSum", "TooMany", "BadDeed", "BadLive", "BadName", "BadStart", "BadText", "NoWatch", "NothingLeft", "BadRow", "BadTower", "BadWeights", "_law_begun", "_law_mixed", "_law_take", "_law_pick", "_law_any", "_law_kinds", "_law_plain_errors", "_law_errors_of"] : List PySem.Str)
abbrev R : PySem.W.OpenRow := PySem.W.OpenLaw.row PySem.Challenge.rw_flatrooms_k00_errors_of_all_parts
abbrev hk : PySem.W.Hook := Hm.hookM 6 fal fnl tab inl R.prog.main.file
def ob (s : PySem.W.SharedT) : Hm.AlM := Hm.obsMG 6 fal fnl tab inl R.prog.main.file (HandSHeadRun.getT s)
theorem ob_eq (s : PySem.W.SharedT) : ob s = hk.obs s.abs := Hm.obsMG_eq (HandSHeadRun.getT_eq s)
theorem run (w : World) : HandSHeadRun.RunEq R (PySem.W.view R.prog [29]) hk ob 6000 loose w := by
  intro os
  kernel_rfl
end
end T00


namespace T00
noncomputable section
open PySem PySem.Spec PyProof.Rows L2 Mn
open Mn (D Env)

theorem xk_BadNumber {K : PySem.W.Frag} {mg : Str → Option Value} {base : Heap} {w : World} (c : Hm.SaysM fal fnl tab inl R.prog.main.file K) (hm : mg "BadNumber" = some (.ref (He.ga K "BadNumber"))) (hs : mg "super" = none) (dr : Option (Addr × Addr × Addr)) : ExK R.prog w K mg base { tab.cfg K with dr := dr } "BadNumber" 2 "part" :=
  Hm.Tab.exk (P := R.prog) (d := di "BadNumber" "part" "BadNumber.__init__" 3) (ps := ["self", "part"]) c.tab rfl hm (c.ini 0 rfl) (by decide +kernel) rfl
    (fun fd I => fn_exInit I (NdefX.nscope_by (by decide +kernel)) rfl hs ⟨_, rfl, rfl⟩ rfl (fun _ => rfl) rfl rfl rfl rfl)
    (fun _ _ _ _ _ _ _ _ _ => rfl) (fun _ _ _ _ _ _ _ _ _ => by kernel_rfl) dr

theorem xk_BadBook {K : PySem.W.Frag} {mg : Str → Option Value} {base : Heap} {w : World} (c : Hm.SaysM fal fnl tab inl R.prog.main.file K) (hm : mg "BadBook" = some (.ref (He.ga K "BadBook"))) (hs : mg "super" = none) (dr : Option (Addr × Addr × Addr)) : ExK R.prog w K mg base { tab.cfg K with dr := dr } "BadBook" 3 "part" :=
  Hm.Tab.exk (P := R.prog) (d := di "BadBook" "part" "BadBook.__init__" 4) (ps := ["self", "part"]) c.tab rfl hm (c.ini 1 rfl) (by decide +kernel) rfl
    (fun fd I => fn_exInit I (NdefX.nscope_by (by decide +kernel)) rfl hs ⟨_, rfl, rfl⟩ rfl (fun _ => rfl) rfl rfl rfl rfl)
    (fun _ _ _ _ _ _ _ _ _ => rfl) (fun _ _ _ _ _ _ _ _ _ => by kernel_rfl) dr

theorem xk_TooMany {K : PySem.W.Frag} {mg : Str → Option Value} {base : Heap} {w : World} (c : Hm.SaysM fal fnl tab inl R.prog.main.file K) (hm : mg "TooMany" = some (.ref (He.ga K "TooMany"))) (hs : mg "super" = none) (dr : Option (Addr × Addr × Addr)) : ExK R.prog w K mg base { tab.cfg K with dr := dr } "TooMany" 8 "most" :=
  Hm.Tab.exk (P := R.prog) (d := di "TooMany" "most" "TooMany.__init__" 9) (ps := ["self", "most"]) c.tab rfl hm (c.ini 2 rfl) (by decide +kernel) rfl
    (fun fd I => fn_exInit I (NdefX.nscope_by (by decide +kernel)) rfl hs ⟨_, rfl, rfl⟩ rfl (fun _ => rfl) rfl rfl rfl rfl)
    (fun _ _ _ _ _ _ _ _ _ => rfl) (fun _ _ _ _ _ _ _ _ _ => by kernel_rfl) dr

theorem xk_BadText {K : PySem.W.Frag} {mg : Str → Option Value} {base : Heap} {w : World} (c : Hm.SaysM fal fnl tab inl R.prog.main.file K) (hm : mg "BadText" = some (.ref (He.ga K "BadText"))) (hs : mg "super" = none) (dr : Option (Addr × Addr × Addr)) : ExK R.prog w K mg base { tab.cfg K with dr := dr } "BadText" 13 "at" :=
  Hm.Tab.exk (P := R.prog) (d := di "BadText" "at" "BadText.__init__" 14) (ps := ["self", "at"]) c.tab rfl hm (c.ini 3 rfl) (by decide +kernel) rfl
    (fun fd I => fn_exInit I (NdefX.nscope_by (by decide +kernel)) rfl hs ⟨_, rfl, rfl⟩ rfl (fun _ => rfl) rfl rfl rfl rfl)
    (fun _ _ _ _ _ _ _ _ _ => rfl) (fun _ _ _ _ _ _ _ _ _ => by kernel_rfl) dr

theorem xk_NoWatch {K : PySem.W.Frag} {mg : Str → Option Value} {base : Heap} {w : World} (c : Hm.SaysM fal fnl tab inl R.prog.main.file K) (hm : mg "NoWatch" = some (.ref (He.ga K "NoWatch"))) (hs : mg "super" = none) (dr : Option (Addr × Addr × Addr)) : ExK R.prog w K mg base { tab.cfg K with dr := dr } "NoWatch" 14 "name" :=
  Hm.Tab.exk (P := R.prog) (d := di "NoWatch" "name" "NoWatch.__init__" 15) (ps := ["self", "name"]) c.tab rfl hm (c.ini 4 rfl) (by decide +kernel) rfl
    (fun fd I => fn_exInit I (NdefX.nscope_by (by decide +kernel)) rfl hs ⟨_, rfl, rfl⟩ rfl (fun _ => rfl) rfl rfl rfl rfl)
    (fun _ _ _ _ _ _ _ _ _ => rfl) (fun _ _ _ _ _ _ _ _ _ => by kernel_rfl) dr

theorem facts {K : PySem.W.Frag} {mg : Str → Option Value} {h : Heap} {w : World} (KX : K.In h) (G : h.Ns mainGlobals mg) (c : Hm.SaysM fal fnl tab inl R.prog.main.file K) : ∃ fd : FuncData, (∀ (s : Shared) (u : Value), BindsTo s fd ⟨[u], []⟩ [("_law_script", u)]) ∧ ∀ base : Heap, RunAt R.prog w K mg base callerA (He.ga K "law") fd ["_law_script"] (spLaw (tab.cfg K) f1_begun fc_begun g_law 2 9) := by
  have cd := c.d
  have bi : Bi mg := ⟨He.free_ok KX G (cd.fact 42), He.free_ok KX G (cd.fact 43), He.free_ok KX G (cd.fact 44), He.free_ok KX G (cd.fact 45), He.free_ok KX G (cd.fact 46), He.free_ok KX G (cd.fact 47), He.free_ok KX G (cd.fact 48), He.free_ok KX G (cd.fact 49), He.free_ok KX G (cd.fact 50), He.free_ok KX G (cd.fact 51), He.free_ok KX G (cd.fact 52), He.free_ok KX G (cd.fact 53), He.free_ok KX G (cd.fact 54), He.free_ok KX G (cd.fact 55), He.free_ok KX G (cd.fact 56), He.free_ok KX G (cd.fact 57), He.free_ok KX G (cd.fact 58), He.free_ok KX G (cd.fact 59), He.free_ok KX G (cd.fact 60), He.free_ok KX G (cd.fact 61), He.free_ok KX G (cd.fact 62)⟩
  have hs : mg "super" = none := He.free_ok KX G (cd.fact 63)
  have AT : ∀ dr, Kn K mg { tab.cfg K with dr := dr } kt := fun dr => Hm.Tab.kn c.tab bi dr
  have AG_FlatError := fun dr => Hm.Tab.gc (T := tab) (K := K) (k := 0) (fs := []) rfl (He.glo_ok KX G (cd.fact 9)) dr
  have AXP_FlatError := fun dr => Hm.Tab.exp (T := tab) (K := K) (k := 0) rfl (He.glo_ok KX G (cd.fact 9)) (cd.fact 28) dr
  have AG_BadPrime := fun dr => Hm.Tab.gc (T := tab) (K := K) (k := 1) (fs := []) rfl (He.glo_ok KX G (cd.fact 10)) dr
  have AXP_BadPrime := fun dr => Hm.Tab.exp (T := tab) (K := K) (k := 1) rfl (He.glo_ok KX G (cd.fact 10)) (cd.fact 29) dr
  have AG_BadNumber := fun dr => Hm.Tab.gc (T := tab) (K := K) (k := 2) (fs := ["part"]) rfl (He.glo_ok KX G (cd.fact 11)) dr
  have AXF_BadNumber := fun (base : Heap) dr => xk_BadNumber (w := w) (base := base) c (He.glo_ok KX G (cd.fact 11)) hs dr
  have AG_BadBook := fun dr => Hm.Tab.gc (T := tab) (K := K) (k := 3) (fs := ["part"]) rfl (He.glo_ok KX G (cd.fact 12)) dr
  have AXF_BadBook := fun (base : Heap) dr => xk_BadBook (w := w) (base := base) c (He.glo_ok KX G (cd.fact 12)) hs dr
  have AG_BadLot := fun dr => Hm.Tab.gc (T := tab) (K := K) (k := 4) (fs := []) rfl (He.glo_ok KX G (cd.fact 13)) dr
  have AXP_BadLot := fun dr => Hm.Tab.exp (T := tab) (K := K) (k := 4) rfl (He.glo_ok KX G (cd.fact 13)) (cd.fact 30) dr
  have AG_BadThing := fun dr => Hm.Tab.gc (T := tab) (K := K) (k := 5) (fs := []) rfl (He.glo_ok KX G (cd.fact 14)) dr
  have AXP_BadThing := fun dr => Hm.Tab.exp (T := tab) (K := K) (k := 5) rfl (He.glo_ok KX G (cd.fact 14)) (cd.fact 31) dr
  have AG_BadTable := fun dr => Hm.Tab.gc (T := tab) (K := K) (k := 6) (fs := []) rfl (He.glo_ok KX G (cd.fact 15)) dr
  have AXP_BadTable := fun dr => Hm.Tab.exp (T := tab) (K := K) (k := 6) rfl (He.glo_ok KX G (cd.fact 15)) (cd.fact 32) dr
  have AG_BadSum := fun dr => Hm.Tab.gc (T := tab) (K := K) (k := 7) (fs := []) rfl (He.glo_ok KX G (cd.fact 16)) dr
  have AXP_BadSum := fun dr => Hm.Tab.exp (T := tab) (K := K) (k := 7) rfl (He.glo_ok KX G (cd.fact 16)) (cd.fact 33) dr
  have AG_TooMany := fun dr => Hm.Tab.gc (T := tab) (K := K) (k := 8) (fs := ["most"]) rfl (He.glo_ok KX G (cd.fact 17)) dr
  have AXF_TooMany := fun (base : Heap) dr => xk_TooMany (w := w) (base := base) c (He.glo_ok KX G (cd.fact 17)) hs dr
  have AG_BadDeed := fun dr => Hm.Tab.gc (T := tab) (K := K) (k := 9) (fs := []) rfl (He.glo_ok KX G (cd.fact 18)) dr
  have AXP_BadDeed := fun dr => Hm.Tab.exp (T := tab) (K := K) (k := 9) rfl (He.glo_ok KX G (cd.fact 18)) (cd.fact 34) dr
  have AG_BadLive := fun dr => Hm.Tab.gc (T := tab) (K := K) (k := 10) (fs := []) rfl (He.glo_ok KX G (cd.fact 19)) dr
  have AXP_BadLive := fun dr => Hm.Tab.exp (T := tab) (K := K) (k := 10) rfl (He.glo_ok KX G (cd.fact 19)) (cd.fact 35) dr
  have AG_BadName := fun dr => Hm.Tab.gc (T := tab) (K := K) (k := 11) (fs := []) rfl (He.glo_ok KX G (cd.fact 20)) dr
  have AXP_BadName := fun dr => Hm.Tab.exp (T := tab) (K := K) (k := 11) rfl (He.glo_ok KX G (cd.fact 20)) (cd.fact 36) dr
  have AG_BadStart := fun dr => Hm.Tab.gc (T := tab) (K := K) (k := 12) (fs := []) rfl (He.glo_ok KX G (cd.fact 21)) dr
  have AXP_BadStart := fun dr => Hm.Tab.exp (T := tab) (K := K) (k := 12) rfl (He.glo_ok KX G (cd.fact 21)) (cd.fact 37) dr
  have AG_BadText := fun dr => Hm.Tab.gc (T := tab) (K := K) (k := 13) (fs := ["at"]) rfl (He.glo_ok KX G (cd.fact 22)) dr
  have AXF_BadText := fun (base : Heap) dr => xk_BadText (w := w) (base := base) c (He.glo_ok KX G (cd.fact 22)) hs dr
  have AG_NoWatch := fun dr => Hm.Tab.gc (T := tab) (K := K) (k := 14) (fs := ["name"]) rfl (He.glo_ok KX G (cd.fact 23)) dr
  have AXF_NoWatch := fun (base : Heap) dr => xk_NoWatch (w := w) (base := base) c (He.glo_ok KX G (cd.fact 23)) hs dr
  have AG_NothingLeft := fun dr => Hm.Tab.gc (T := tab) (K := K) (k := 15) (fs := []) rfl (He.glo_ok KX G (cd.fact 24)) dr
  have AXP_NothingLeft := fun dr => Hm.Tab.exp (T := tab) (K := K) (k := 15) rfl (He.glo_ok KX G (cd.fact 24)) (cd.fact 38) dr
  have AG_BadRow := fun dr => Hm.Tab.gc (T := tab) (K := K) (k := 16) (fs := []) rfl (He.glo_ok KX G (cd.fact 25)) dr
  have AXP_BadRow := fun dr => Hm.Tab.exp (T := tab) (K := K) (k := 16) rfl (He.glo_ok KX G (cd.fact 25)) (cd.fact 39) dr
  have AG_BadTower := fun dr => Hm.Tab.gc (T := tab) (K := K) (k := 17) (fs := []) rfl (He.glo_ok KX G (cd.fact 26)) dr
  have AXP_BadTower := fun dr => Hm.Tab.exp (T := tab) (K := K) (k := 17) rfl (He.glo_ok KX G (cd.fact 26)) (cd.fact 40) dr
  have AG_BadWeights := fun dr => Hm.Tab.gc (T := tab) (K := K) (k := 18) (fs := []) rfl (He.glo_ok KX G (cd.fact 27)) dr
  have AXP_BadWeights := fun dr => Hm.Tab.exp (T := tab) (K := K) (k := 18) rfl (He.glo_ok KX G (cd.fact 27)) (cd.fact 41) dr
  have AHN : ∀ dr, ∀ k C fs, ({ tab.cfg K with dr := dr } : Cfg).cls k = some (C, fs) → clsNm k = fs := fun dr => Hm.Tab.hn (K := K) (T := tab) dr
  have AHA_part : ∀ dr, ∀ k C fs, ({ tab.cfg K with dr := dr } : Cfg).cls k = some (C, fs) → ("part" : Str) ∈ fs → XfC K C ∧ PySem.W.findIn K (.ref C) "part" = some none := fun dr => Hm.Tab.hx c.tab (by
    intro p hp hn
    simp only [tab, List.mem_cons, List.not_mem_nil, or_false] at hp
    rcases hp with rfl | rfl | rfl | rfl | rfl | rfl | rfl | rfl | rfl | rfl | rfl | rfl | rfl | rfl | rfl | rfl | rfl | rfl | rfl
    · exact absurd hn (by decide +kernel)
    · exact absurd hn (by decide +kernel)
    · exact Hm.IniD.hno (c.ini 0 rfl).1
    · exact Hm.IniD.hno (c.ini 1 rfl).1
    · exact absurd hn (by decide +kernel)
    · exact absurd hn (by decide +kernel)
    · exact absurd hn (by decide +kernel)
    · exact absurd hn (by decide +kernel)
    · exact absurd hn (by decide +kernel)
    · exact absurd hn (by decide +kernel)
    · exact absurd hn (by decide +kernel)
    · exact absurd hn (by decide +kernel)
    · exact absurd hn (by decide +kernel)
    · exact absurd hn (by decide +kernel)
    · exact absurd hn (by decide +kernel)
    · exact absurd hn (by decide +kernel)
    · exact absurd hn (by decide +kernel)
    · exact absurd hn (by decide +kernel)
    · exact absurd hn (by decide +kernel)) dr
  have AHA_most : ∀ dr, ∀ k C fs, ({ tab.cfg K with dr := dr } : Cfg).cls k = some (C, fs) → ("most" : Str) ∈ fs → XfC K C ∧ PySem.W.findIn K (.ref C) "most" = some none := fun dr => Hm.Tab.hx c.tab (by
    intro p hp hn
    simp only [tab, List.mem_cons, List.not_mem_nil, or_false] at hp
    rcases hp with rfl | rfl | rfl | rfl | rfl | rfl | rfl | rfl | rfl | rfl | rfl | rfl | rfl | rfl | rfl | rfl | rfl | rfl | rfl
    · exact absurd hn (by decide +kernel)
    · exact absurd hn (by decide +kernel)
    · exact absurd hn (by decide +kernel)
    · exact absurd hn (by decide +kernel)
    · exact absurd hn (by decide +kernel)
    · exact absurd hn (by decide +kernel)
    · exact absurd hn (by decide +kernel)
    · exact absurd hn (by decide +kernel)
    · exact Hm.IniD.hno (c.ini 2 rfl).1
    · exact absurd hn (by decide +kernel)
    · exact absurd hn (by decide +kernel)
    · exact absurd hn (by decide +kernel)
    · exact absurd hn (by decide +kernel)
    · exact absurd hn (by decide +kernel)
    · exact absurd hn (by decide +kernel)
    · exact absurd hn (by decide +kernel)
    · exact absurd hn (by decide +kernel)
    · exact absurd hn (by decide +kernel)
    · exact absurd hn (by decide +kernel)) dr
  have AHA_at : ∀ dr, ∀ k C fs, ({ tab.cfg K with dr := dr } : Cfg).cls k = some (C, fs) → ("at" : Str) ∈ fs → XfC K C ∧ PySem.W.findIn K (.ref C) "at" = some none := fun dr => Hm.Tab.hx c.tab (by
    intro p hp hn
    simp only [tab, List.mem_cons, List.not_mem_nil, or_false] at hp
    rcases hp with rfl | rfl | rfl | rfl | rfl | rfl | rfl | rfl | rfl | rfl | rfl | rfl | rfl | rfl | rfl | rfl | rfl | rfl | rfl
    · exact absurd hn (by decide +kernel)
    · exact absurd hn (by decide +kernel)
    · exact absurd hn (by decide +kernel)
    · exact absurd hn (by decide +kernel)
    · exact absurd hn (by decide +kernel)
    · exact absurd hn (by decide +kernel)
    · exact absurd hn (by decide +kernel)
    · exact absurd hn (by decide +kernel)
    · exact absurd hn (by decide +kernel)
    · exact absurd hn (by decide +kernel)
    · exact absurd hn (by decide +kernel)
    · exact absurd hn (by decide +kernel)
    · exact absurd hn (by decide +kernel)
    · exact Hm.IniD.hno (c.ini 3 rfl).1
    · exact absurd hn (by decide +kernel)
    · exact absurd hn (by decide +kernel)
    · exact absurd hn (by decide +kernel)
    · exact absurd hn (by decide +kernel)
    · exact absurd hn (by decide +kernel)) dr
  have AHA_name : ∀ dr, ∀ k C fs, ({ tab.cfg K with dr := dr } : Cfg).cls k = some (C, fs) → ("name" : Str) ∈ fs → XfC K C ∧ PySem.W.findIn K (.ref C) "name" = some none := fun dr => Hm.Tab.hx c.tab (by
    intro p hp hn
    simp only [tab, List.mem_cons, List.not_mem_nil, or_false] at hp
    rcases hp with rfl | rfl | rfl | rfl | rfl | rfl | rfl | rfl | rfl | rfl | rfl | rfl | rfl | rfl | rfl | rfl | rfl | rfl | rfl
    · exact absurd hn (by decide +kernel)
    · exact absurd hn (by decide +kernel)
    · exact absurd hn (by decide +kernel)
    · exact absurd hn (by decide +kernel)
    · exact absurd hn (by decide +kernel)
    · exact absurd hn (by decide +kernel)
    · exact absurd hn (by decide +kernel)
    · exact absurd hn (by decide +kernel)
    · exact absurd hn (by decide +kernel)
    · exact absurd hn (by decide +kernel)
    · exact absurd hn (by decide +kernel)
    · exact absurd hn (by decide +kernel)
    · exact absurd hn (by decide +kernel)
    · exact absurd hn (by decide +kernel)
    · exact Hm.IniD.hno (c.ini 4 rfl).1
    · exact absurd hn (by decide +kernel)
    · exact absurd hn (by decide +kernel)
    · exact absurd hn (by decide +kernel)
    · exact absurd hn (by decide +kernel)) dr
  obtain ⟨fd0, F0⟩ := cd.def_ 0 rfl
  obtain ⟨fd1, F1⟩ := cd.def_ 1 rfl
  obtain ⟨fd2, F2⟩ := cd.def_ 2 rfl
  obtain ⟨fd3, F3⟩ := cd.def_ 3 rfl
  obtain ⟨fd4, F4⟩ := cd.def_ 4 rfl
  obtain ⟨fd5, F5⟩ := cd.def_ 5 rfl
  obtain ⟨fd6, F6⟩ := cd.def_ 6 rfl
  obtain ⟨fd7, F7⟩ := cd.def_ 7 rfl
  obtain ⟨fd8, F8⟩ := cd.def_ 8 rfl
  have bA := FunD.bindsA (ps := ["_law_script"]) F8 fun _ _ _ _ _ _ us hl => match us, hl with | [_], _ => rfl
  refine ⟨fd8, fun s u => bA s [u] rfl, fun base => ?_⟩
  have AXF_BadNumber := AXF_BadNumber base
  have AXF_BadBook := AXF_BadBook base
  have AXF_TooMany := AXF_TooMany base
  have AXF_BadText := AXF_BadText base
  have AXF_NoWatch := AXF_NoWatch base
  have AH_law_mixed := fun dr => fx_law_mixed (P := R.prog) (w := w) (base := base) (AT dr)  (He.glo_ok KX G (cd.fact 1)) F1
  have AH_law_take := fun dr => fx_law_take (P := R.prog) (w := w) (base := base) (AT dr) (AH_law_mixed dr) (He.glo_ok KX G (cd.fact 2)) F2
  have AH_law_pick := fun dr => fx_law_pick (P := R.prog) (w := w) (base := base) (AT dr) (AH_law_take dr) (He.glo_ok KX G (cd.fact 3)) F3
  have AH_law_any := fun dr => fx_law_any (P := R.prog) (w := w) (base := base) (AT dr) (AH_law_pick dr) (He.glo_ok KX G (cd.fact 4)) F4
  have AH_law_kinds := fun dr => fx_law_kinds (P := R.prog) (w := w) (base := base) (AT dr) (AG_BadPrime dr) (AG_BadLot dr) (AG_BadThing dr) (AG_BadTable dr) (AG_BadSum dr) (AG_BadDeed dr) (AG_BadLive dr) (AG_BadName dr) (AG_BadStart dr) (AG_NothingLeft dr) (AG_BadRow dr) (AG_BadTower dr) (AG_BadWeights dr) (AG_BadNumber dr) (AG_BadBook dr) (AG_TooMany dr) (AG_BadText dr) (AG_NoWatch dr) (He.glo_ok KX G (cd.fact 5)) F5
  have AH_law_plain_errors := fun dr => fx_law_plain_errors (P := R.prog) (w := w) (base := base) (AT dr) (AXP_BadPrime dr) (AXP_BadLot dr) (AXP_BadThing dr) (AXP_BadTable dr) (AXP_BadSum dr) (AXP_BadDeed dr) (AXP_BadLive dr) (AXP_BadName dr) (AXP_BadStart dr) (AXP_NothingLeft dr) (AXP_BadRow dr) (AXP_BadTower dr) (AXP_BadWeights dr) (He.glo_ok KX G (cd.fact 6)) F6
  have AH_law_errors_of := fun dr => fx_law_errors_of (P := R.prog) (w := w) (base := base) (AT dr) (AXF_BadNumber dr) (AXF_BadBook dr) (AXF_TooMany dr) (AXF_BadText dr) (AXF_NoWatch dr) (AHN dr) (AHA_part dr) (AHA_most dr) (AHA_at dr) (AHA_name dr) (He.glo_ok KX G (cd.fact 7)) F7
  exact ra_law (c := tab.cfg K) rfl AT AG_FlatError AXP_FlatError AH_law_pick AH_law_any AH_law_errors_of AH_law_plain_errors AH_law_kinds (He.glo_ok KX G (cd.fact 0)) F0 F8
end
end T00
open PySem PySem.Spec PyProof.Rows L2 Mn T00 in
theorem T00.law_holds (good : ∀ ns : List Int, ns.length ≤ 63 → (∀ z ∈ ns, Builtin.Int.intBits z ≤ 1048576) → LawGood f1_begun fc_begun g_law 2 9 ns) : PySem.Challenge.rw_flatrooms_k00_errors_of_all_parts.Holds := by
  w_on; o_law
  refine HandSHeadRun.head_any (r := R) (q := PySem.W.view R.prog [29]) (H := hk) (ob := ob) (M := 6000) (loose := T00.loose) (d := HandSHeadRun.topDef R.prog 29) (kwd := []) ob_eq (by kernel_rfl) (fun s => by kernel_rfl) run (by kernel_rfl) (by kernel_rfl) (by kernel_rfl) (by rfl) (by first | assumption | decide +kernel) (by decide +kernel) ⟨rfl, rfl, rfl, rfl, rfl, by decide +kernel⟩ ?hw ?hc
  case hw => w_witness2
  case hc =>
    refine Mn.walk_law (l := PySem.Challenge.rw_flatrooms_k00_errors_of_all_parts) (n := 63) (x := "_law_script") rfl (by decide) (by kernel_rfl) ?F (fun _ _ _ _ _ ⟨_, _, _, _, _, z⟩ => z.2.2.2.2.2.2.2)
    intro w mg fa h Y G hmg0
    obtain ⟨K, KX, c⟩ := Y
    have hmg : mg ("law" : PySem.Str) = some (.ref fa) := by
      have e : (HandSHeadRun.topDef R.prog 29).name = ("law" : PySem.Str) := by kernel_rfl
      rw [← e]
      exact hmg0
    have hga := He.glo_ok KX G (c.d.fact 8)
    rw [hmg] at hga
    cases hga
    obtain ⟨fd, hb, hF⟩ := facts (w := w) KX G c
    exact ⟨K, fd, _, KX, hb, fun H a ns hl hbits hS => ⟨rfl, .ref a, ns, rfl, .scr hS, good ns hl hbits, fun _ => rfl⟩, fun base _ _ => hF base⟩


/-! the draws: they always give a number, and one in the bounds -/
namespace T00
open PySem Mn
open Mn (D Env)
noncomputable section

theorem log2_le {n k : Nat} (h : n < 2 ^ k) : n.log2 ≤ k := by
  by_cases h0 : n = 0
  · subst h0; simp
  · exact Nat.le_of_lt ((Nat.log2_lt h0).mpr h)
theorem mulOk_of {i j : Int} {a b : Nat} (h1 : i.natAbs < 2 ^ a) (h2 : j.natAbs < 2 ^ b) (h : a + b < 1000000 := by omega) : mulOk i j = true := by
  have e1 := log2_le h1
  have e2 := log2_le h2
  unfold mulOk
  exact decide_eq_true (by omega)
theorem lift_some {α : Type} (a : α) : lift (some a) = M.ret a := rfl
theorem of_at {α : Type} (f : DS → Res α) (s : DS) : M.of f s = f s := rfl
theorem mod_bounds {x g : Int} (h : 0 < g) : 0 ≤ x.fmod g ∧ x.fmod g < g := ⟨Int.fmod_nonneg_of_pos x h, Int.fmod_lt_of_pos x h⟩
def inner : StF := (fSeq (fAsg 4 false (eBin modD (eBin addD (eBin mulD (eVarB 4) (eC (.int 48271))) (eB (one intD) [.one (eVarB 5)])) (eVarB 3))) fSkip)
theorem inner_ok (t f : D) (g b c : Int) (z : Sl) (s : DS) (hg : 0 < g) (hg2 : g < 2 ^ 31) (hb : 0 ≤ b ∧ b < g) :
    inner [.val .drw, .val t, .val f, .val (.int g), .val (.int b), .val (.int c)] s = .ok (.nx [.val .drw, .val t, .val f, .val (.int g), .val (.int ((b * 48271 + c).fmod g)), .val (.int c)]) s := by
  have m : mulOk b 48271 = true := mulOk_of (a := 31) (b := 20) (by omega) (by decide)
  have hg0 : ¬ g = 0 := by omega
  simp [inner, fSeq, fAsg, eBin, eVarB, eC, lift_some, mulD, m, addD, modD, hg0, eB, evs, one, intD, mkSl, fSkip]
theorem inner_go (t f : D) (g : Int) (s : DS) (hg : 0 < g) (hg2 : g < 2 ^ 31) : ∀ (cs : List Int) (b : Int) (z : Sl), 0 ≤ b ∧ b < g →
    ∃ b' z', forGo (.name 5) inner (cs.map D.int) [.val .drw, .val t, .val f, .val (.int g), .val (.int b), z] s = .ok (.nx [.val .drw, .val t, .val f, .val (.int g), .val (.int b'), z']) s ∧ 0 ≤ b' ∧ b' < g
  | [], b, z, hb => ⟨b, z, rfl, hb⟩
  | c :: cs, b, z, hb => by
    obtain ⟨b', z', e, h1, h2⟩ := inner_go t f g s hg hg2 cs ((b * 48271 + c).fmod g) (.val (.int c)) (mod_bounds hg)
    refine ⟨b', z', ?_, h1, h2⟩
    have e1 := inner_ok t f g b c z s hg hg2 hb
    rw [← e]
    simp [forGo, asgT, lift_some, bnd_at, e1]
def outer : StF := (fSeq (fAsg 4 false (eBin modD (eBin addD (eBin mulD (eVarB 1) (eC (.int 69621))) (eBin fdivD (eVarB 3) (eC (.int 7)))) (eVarB 3))) (fSeq (fFor (.name 5) (sSeq (eDr 0 .cells)) inner) (fSeq (fAsg 2 false (eBin addD (eBin mulD (eVarB 2) (eC (.int 2147483647))) (eBin modD (eBin powD (eVarB 4) (eC (.int 5))) (eVarB 3)))) fSkip)))
theorem outer_ok (t f g : Int) (k : Nat) (y z : Sl) (s : DS) (hg : 0 < g) (hg2 : g < 2 ^ 31) (ht : t.natAbs < 2 ^ 40) (hf : f.natAbs < 2 ^ k) (hk : k < 1000) :
    ∃ f' y' z', outer [.val .drw, .val (.int t), .val (.int f), .val (.int g), y, z] s = .ok (.nx [.val .drw, .val (.int t), .val (.int f'), .val (.int g), y', z']) s ∧ f'.natAbs < 2 ^ (k + 32) := by
  have m1 : mulOk t 69621 = true := mulOk_of (a := 40) (b := 20) ht (by decide)
  have m2 : mulOk f 2147483647 = true := mulOk_of (a := k) (b := 31) hf (by decide)
  have hg0 : ¬ g = 0 := by omega
  obtain ⟨b', z', e, h1, h2⟩ := inner_go (.int t) (.int f) g s hg hg2 s.cells ((t * 69621 + g / 7).fmod g) z (mod_bounds hg)
  have hp : b'.natAbs < 2 ^ 64 := by omega
  refine ⟨f * 2147483647 + (b' ^ 5).fmod g, .val (.int b'), z', ?_, ?_⟩
  · have l7 : (7 : Nat).log2 < 9000 := by decide
    simp [outer, fSeq, fAsg, fFor, sSeq, seqItems, eDr, isDrw, eBin, eVarB, eC, lift_some, mulD, m1, addD, modD, fdivD, hg0, eB, evs, one, intD, mkSl, fSkip, l7]
    simp [bnd_at, of_at, e, lift_some, m2, powD, hp, hg0]
  · have := mod_bounds (x := b' ^ 5) hg
    have e2 : 2 ^ (k + 32) = 2 ^ k * 4294967296 := by rw [Nat.pow_add]
    rw [e2]
    omega
end
end T00

/-! the draws, on -/
namespace T00
open PySem Mn
open Mn (D Env)
noncomputable section
theorem mixed_is : g_law_mixed = fSeq (fDrSet 0 .turn (eBin addD (eDr 0 .turn) (eC (.int 1)))) (fSeq (fPar [1, 2] [(false, (eB (one intD) [.one (eDr 0 .turn)])), (false, (eC (.int 0)))]) (fSeq (fFor (.name 3) (sSeq (eLst [.one (eC (.int 2147483629)), .one (eC (.int 2147483587)), .one (eC (.int 2147483579))])) outer) (fSeq (fRet (eVar 2)) fSkip))) := rfl
theorem mixed_go (t : Int) (s : DS) (ht : t.natAbs < 2 ^ 40) : ∃ f y z, forGo (.name 3) outer [.int 2147483629, .int 2147483587, .int 2147483579] [.val .drw, .val (.int t), .val (.int 0), .un, .un, .un] s = .ok (.nx [.val .drw, .val (.int t), .val (.int f), .val (.int 2147483579), y, z]) s := by
  obtain ⟨f1, y1, z1, e1, h1⟩ := outer_ok t 0 2147483629 1 .un .un s (by decide) (by decide) ht (by decide) (by decide)
  obtain ⟨f2, y2, z2, e2, h2⟩ := outer_ok t f1 2147483587 33 y1 z1 s (by decide) (by decide) ht h1 (by decide)
  obtain ⟨f3, y3, z3, e3, h3⟩ := outer_ok t f2 2147483579 65 y2 z2 s (by decide) (by decide) ht h2 (by decide)
  exact ⟨f3, y3, z3, by simp [forGo, asgT, lift_some, bnd_at, e1, e2, e3]⟩
theorem mixed_ok (s : DS) (h : s.turn.natAbs < 2 ^ 39) : ∃ v, fn_law_mixed [.drw] s = .ok (.int v) { s with turn := s.turn + 1 } := by
  obtain ⟨f, y, z, e⟩ := mixed_go (s.turn + 1) { s with turn := s.turn + 1 } (by omega)
  refine ⟨f, ?_⟩
  unfold fn_law_mixed fnOf
  rw [mixed_is]
  simp [fSeq, fDrSet, fPar, evsP, setSl, fFor, sSeq, seqItems, eLst, isDrw, eDr, eBin, eC, lift_some, addD, eB, evs, one, intD, mkSl, fSkip, fRet, eVar, line]
  simp [bnd_at, of_at, lift_some, e, mkSl, setSl]
theorem eq_int (a b : Int) : gEq (.int a) (.int b) = some (.bl (decide (a = b))) := by
  simp [gEq, eqO, pyOf, toPy, PyData.depth, PyData.eqv]
  by_cases h : a = b <;> simp [h]
def takeA : StF := (fIf (eBin gEq (eDr 0 .rest) (eC (.int 0))) (fSeq (fKnow 0) (fSeq (fDrSet 0 .rest (eIf (eDrMore 0) (eDrPop 0) (eCall fn_law_mixed [.one (eVar 0)]))) fSkip)) fSkip)
theorem take_is : g_law_take = fSeq takeA (fSeq (fAsg 2 false (eBin modD (eB (one intD) [.one (eDr 0 .rest)]) (eVarB 1))) (fSeq (fDrSet 0 .rest (eBin fdivD (eB (one intD) [.one (eDr 0 .rest)]) (eVarB 1))) (fSeq (fRet (eVar 2)) fSkip))) := rfl
theorem takeA_ok (d : D) (z : Sl) (s : DS) (h : s.turn.natAbs < 2 ^ 39) : ∃ s', takeA [.val .drw, .val d, z] s = .ok (.nx [.val .drw, .val d, z]) s' ∧ s'.cells = s.cells ∧ s'.turn.natAbs ≤ s.turn.natAbs + 1 := by
  unfold takeA
  by_cases hr : s.rest = 0
  · cases hl : s.large with
    | nil =>
      obtain ⟨v, e⟩ := mixed_ok s h
      refine ⟨{ s with turn := s.turn + 1, rest := v }, ?_, rfl, ?_⟩
      · simp [fIf, fSeq, fKnow, fDrSet, isDrw, eDr, eBin, eC, lift_some, eIf, eDrMore, eCall, evs, eVar, fSkip, ofBl]
        simp [bnd_at, of_at, eq_int, hr, lift_some, ofBl, hl, PyData.eqv, PyData.eqvAll]
        rw [← hl, e]
        rfl
      · show (s.turn + 1).natAbs ≤ _
        omega
    | cons a r =>
      refine ⟨{ s with large := r, rest := a }, ?_, rfl, Nat.le_succ _⟩
      simp [fIf, fSeq, fKnow, fDrSet, isDrw, eDr, eBin, eC, lift_some, eIf, eDrMore, eDrPop, eCall, evs, eVar, fSkip, ofBl]
      simp [bnd_at, of_at, eq_int, hr, lift_some, ofBl, hl, PyData.eqv, PyData.eqvAll]
  · refine ⟨s, ?_, rfl, Nat.le_succ _⟩
    simp [fIf, fSeq, fKnow, fDrSet, isDrw, eDr, eBin, eC, lift_some, fSkip, ofBl]
    simp [bnd_at, of_at, eq_int, hr, lift_some, ofBl]
theorem take_ok (n : Int) (s : DS) (h : s.turn.natAbs < 2 ^ 39) (h0 : 0 < n) (hn : n < 2 ^ 60) : ∃ v s', fn_law_take [.drw, .int n] s = .ok (.int v) s' ∧ 0 ≤ v ∧ v < n ∧ s'.cells = s.cells ∧ s'.turn.natAbs ≤ s.turn.natAbs + 1 := by
  obtain ⟨s1, e, h1, h2⟩ := takeA_ok (.int n) .un s h
  have hn0 : ¬ n = 0 := by omega
  have hl : n.natAbs.log2 < 9000 := by
    have := log2_le (n := n.natAbs) (k := 60) (by omega)
    omega
  refine ⟨s1.rest.fmod n, { s1 with rest := s1.rest / n }, ?_, (mod_bounds h0).1, (mod_bounds h0).2, h1, h2⟩
  unfold fn_law_take fnOf
  rw [take_is]
  simp [fSeq, fAsg, fDrSet, isDrw, eDr, eBin, eB, evs, one, intD, eVarB, eVar, fRet, fSkip, lift_some]
  simp [bnd_at, of_at, e, lift_some, modD, fdivD, hn0, h0, hl, mkSl]
theorem idx_ok {ds : List D} {v : Int} (h0 : 0 ≤ v) (h1 : v < ds.length) : ∃ d, d ∈ ds ∧ idxD (.lst ds) (.int v) = some d := by
  obtain ⟨k, rfl⟩ := Int.eq_ofNat_of_zero_le h0
  have hk : k < ds.length := by omega
  refine ⟨ds[k], List.getElem_mem hk, ?_⟩
  exact L2.atI_nat (List.getElem?_eq_getElem hk)
theorem pick_ok (ds : List D) (s : DS) (h : s.turn.natAbs < 2 ^ 39) (h0 : ds ≠ []) (hn : ds.length < 2 ^ 60) : ∃ d s', d ∈ ds ∧ fn_law_pick [.drw, .lst ds] s = .ok d s' ∧ s'.cells = s.cells ∧ s'.turn.natAbs ≤ s.turn.natAbs + 1 := by
  have hp : 0 < ds.length := List.length_pos_iff.mpr h0
  obtain ⟨v, s1, e, v0, v1, h1, h2⟩ := take_ok ds.length s h (by omega) (by omega)
  obtain ⟨d, hd, ei⟩ := idx_ok (ds := ds) v0 v1
  refine ⟨d, s1, hd, ?_, h1, h2⟩
  unfold fn_law_pick fnOf g_law_pick
  simp [fSeq, fRet, eBin, eVarB, eCall, evs, eVar, eB, one, lenD, lift_some, fSkip]
  simp [bnd_at, e, ei, lift_some]
end
end T00

namespace T00
open PySem Mn
open Mn (D Env)
noncomputable section
def g_rest : StF := (fSeq (fAsg 4 false (eCall fn_law_errors_of [.one (eVar 3)])) (fSeq (fAsg 5 false (eBin addD (eCall fn_law_plain_errors [.one (eVar 2)]) (eLc [9] (sSeq (eVarB 4)) (.name 9) none (eBin idxD (eVarB 9) (eC (.int 0)))))) (fSeq (fFor (.tup [6, 7]) (sB enumOf [.one (eVar 5)]) (fSeq (fIf (eBin gNe (eCall fn_law_kinds [.one (eVar 7)]) (eLc [10] (sB range1 [.one (eC (.int 18))]) (.name 10) none (eBin gEq (eVarB 10) (eVarB 6)))) (fSeq (fRet (eC (.bl false))) fSkip) fSkip) (fSeq (fIf (eOr (eNot (eIsi kt [.own 0] (eVarB 7))) (eNot (eIsi kt [.bi "ValueError"] (eVarB 7)))) (fSeq (fRet (eC (.bl false))) fSkip) fSkip) fSkip))) (fSeq (fIf (eBin gNe (eLc [9] (sSeq (eVarB 4)) (.name 9) (some (eBin gNe (eReprL [.one (eBin idxD (eVarB 9) (eC (.int 1))), .one (eBin idxD (eVarB 9) (eC (.int 2)))]) (eReprL [.one (eVar 3), .one (eVar 3)]))) (eC (.int 1))) (eLst [])) (fSeq (fRet (eC (.bl false))) fSkip) fSkip) (fSeq (fAsg 8 false (eExP 0 (eC (.str "w")))) (fSeq (fRet (eAnd (eBin gNotIn (eC (.bl true)) (eCall fn_law_kinds [.one (eVar 8)])) (eIsi kt [.bi "ValueError"] (eVarB 8)))) fSkip))))))
theorem g_law_is : g_law = fSeq (fPar [2, 3] [(false, (eCall fn_law_pick [.one (eVar 1), .one (eLst [.one (eC (.str "")), .one (eC (.str "w")), .one (eC (.str "nothing of the kind"))])])), (false, (eCall fn_law_any [.one (eVar 1)]))]) g_rest := rfl
theorem rest_0 (ns : List Int) (w : D) (s : DS) : g_rest [.val (.scr ns), .val .drw, .val w, .val (.non), .un, .un, .un, .un, .un, .un, .un] s = .ok (.rt (.bl true)) s := by
  kernel_rfl
theorem rest_1 (ns : List Int) (w : D) (s : DS) : g_rest [.val (.scr ns), .val .drw, .val w, .val (.bl false), .un, .un, .un, .un, .un, .un, .un] s = .ok (.rt (.bl true)) s := by
  kernel_rfl
theorem rest_2 (ns : List Int) (w : D) (s : DS) : g_rest [.val (.scr ns), .val .drw, .val w, .val (.int (-5)), .un, .un, .un, .un, .un, .un, .un] s = .ok (.rt (.bl true)) s := by
  kernel_rfl
theorem rest_3 (ns : List Int) (w : D) (s : DS) : g_rest [.val (.scr ns), .val .drw, .val w, .val (.int (10 ^ 45)), .un, .un, .un, .un, .un, .un, .un] s = .ok (.rt (.bl true)) s := by
  kernel_rfl
theorem rest_4 (ns : List Int) (w : D) (s : DS) : g_rest [.val (.scr ns), .val .drw, .val w, .val (.str ""), .un, .un, .un, .un, .un, .un, .un] s = .ok (.rt (.bl true)) s := by
  kernel_rfl
theorem rest_5 (ns : List Int) (w : D) (s : DS) : g_rest [.val (.scr ns), .val .drw, .val w, .val (.str "wide"), .un, .un, .un, .un, .un, .un, .un] s = .ok (.rt (.bl true)) s := by
  kernel_rfl
theorem rest_6 (ns : List Int) (w : D) (s : DS) : g_rest [.val (.scr ns), .val .drw, .val w, .val (.str "two words"), .un, .un, .un, .un, .un, .un, .un] s = .ok (.rt (.bl true)) s := by
  kernel_rfl
theorem rest_7 (ns : List Int) (w : D) (s : DS) : g_rest [.val (.scr ns), .val .drw, .val w, .val (.lst []), .un, .un, .un, .un, .un, .un, .un] s = .ok (.rt (.bl true)) s := by
  kernel_rfl
theorem rest_8 (ns : List Int) (w : D) (s : DS) : g_rest [.val (.scr ns), .val .drw, .val w, .val (.lst [.tup [.int 0, .int 2]]), .un, .un, .un, .un, .un, .un, .un] s = .ok (.rt (.bl true)) s := by
  kernel_rfl
theorem rest_9 (ns : List Int) (w : D) (s : DS) : g_rest [.val (.scr ns), .val .drw, .val w, .val (.tup []), .un, .un, .un, .un, .un, .un, .un] s = .ok (.rt (.bl true)) s := by
  kernel_rfl
theorem rest_10 (ns : List Int) (w : D) (s : DS) : g_rest [.val (.scr ns), .val .drw, .val w, .val (.tup [.int 4]), .un, .un, .un, .un, .un, .un, .un] s = .ok (.rt (.bl true)) s := by
  kernel_rfl
theorem rest_11 (ns : List Int) (w : D) (s : DS) : g_rest [.val (.scr ns), .val .drw, .val w, .val (.dK []), .un, .un, .un, .un, .un, .un, .un] s = .ok (.rt (.bl true)) s := by
  kernel_rfl
theorem rest_12 (ns : List Int) (w : D) (s : DS) : g_rest [.val (.scr ns), .val .drw, .val w, .val (.dK [(.inr "a", .tup [.int 1])]), .un, .un, .un, .un, .un, .un, .un] s = .ok (.rt (.bl true)) s := by
  kernel_rfl
theorem rest_13 (ns : List Int) (w : D) (s : DS) : g_rest [.val (.scr ns), .val .drw, .val w, .val (.lst [.lst [.non]]), .un, .un, .un, .un, .un, .un, .un] s = .ok (.rt (.bl true)) s := by
  kernel_rfl
def anys : List D := [.non, .bl false, .int (-5), .int (10 ^ 45), .str "", .str "wide", .str "two words", .lst [], .lst [.tup [.int 0, .int 2]], .tup [], .tup [.int 4], .dK [], .dK [(.inr "a", .tup [.int 1])], .lst [.lst [.non]]]
theorem rest_ok (ns : List Int) (w d : D) (s : DS) (h : d ∈ anys) : g_rest [.val (.scr ns), .val .drw, .val w, .val d, .un, .un, .un, .un, .un, .un, .un] s = .ok (.rt (.bl true)) s := by
  simp only [anys, List.mem_cons, List.not_mem_nil, or_false] at h
  rcases h with rfl | rfl | rfl | rfl | rfl | rfl | rfl | rfl | rfl | rfl | rfl | rfl | rfl | rfl
  · exact rest_0 ns w s
  · exact rest_1 ns w s
  · exact rest_2 ns w s
  · exact rest_3 ns w s
  · exact rest_4 ns w s
  · exact rest_5 ns w s
  · exact rest_6 ns w s
  · exact rest_7 ns w s
  · exact rest_8 ns w s
  · exact rest_9 ns w s
  · exact rest_10 ns w s
  · exact rest_11 ns w s
  · exact rest_12 ns w s
  · exact rest_13 ns w s
end
end T00

/-! the plain law -/
namespace T00
open PySem Mn
open Mn (D Env)
noncomputable section
def absI (i : Int) : Int := if i < 0 then -i else i
theorem cells_go (x y : Sl) (s : DS) : ∀ ns : List Int, lcGo [x, y, .un] (.name 2) none (eB (one absD) [.one (eVarB 2)]) (ns.map D.int) s = .ok ((ns.map absI).map D.int) s
  | [] => rfl
  | i :: r => by
    have ih := cells_go x y s r
    simp [lcGo, asgT, condM, lift_some, eB, evs, one, absD, eVarB]
    simp [bnd_at, ih, absI]
def bigs : List Int → List Int
  | [] => []
  | i :: r => if 10 ^ 18 ≤ absI i then (absI i - 10 ^ 18) :: bigs r else bigs r
theorem bigs_go (x y : Sl) (s : DS) : ∀ ns : List Int, lcGo [x, y, .un] (.name 2) (some (eBin gGe (eB (one absD) [.one (eVarB 2)]) (eBin powD (eC (.int 10)) (eC (.int 18))))) (eBin subD (eB (one absD) [.one (eVarB 2)]) (eBin powD (eC (.int 10)) (eC (.int 18)))) (ns.map D.int) s = .ok ((bigs ns).map D.int) s
  | [] => rfl
  | i :: r => by
    have ih := bigs_go x y s r
    have e : absD (.int i) = some (.int (absI i)) := rfl
    simp [lcGo, asgT, condM, lift_some, eB, evs, one, e, eVarB, eBin, eC, powD, gGe, cmpI, subD, ofBl, bigs]
    by_cases h : 1000000000000000000 ≤ absI i
    · simp [h, bnd_at, ih]
    · simp [h, ih]
theorem beg_ok (ns : List Int) (s : DS) : fBeg f1_begun fc_begun (.val (.scr ns) :: List.replicate 2 .un) s (bigs ns) (ns.map absI) := by
  refine ⟨[.val (.scr ns), .own (.lst ((bigs ns).map D.int)), .un], s, s, ?_, rfl, ?_⟩
  · have e := bigs_go (.val (.scr ns)) .un s ns
    unfold f1_begun
    simp [fAsg, eLc, sSeq, eVarB, seqItems, lift_some, wipeE]
    simp [bnd_at, noErr, e, mkSl, isSeq]
  · have e := cells_go (.val (.scr ns)) (.own (.lst ((bigs ns).map D.int))) s ns
    unfold fc_begun
    simp [eLc, sSeq, eVarB, seqItems, lift_some, wipeE]
    simp [bnd_at, noErr, e]
theorem any_is : ∃ a, g_law_any = fSeq a (fSeq (fRet (eCall fn_law_pick [.one (eVar 0), .one (eVar 1)])) fSkip) ∧ ∀ s, a [.val .drw, .un] s = .ok (.nx [.val .drw, .val (.lst anys)]) s := ⟨_, rfl, fun s => by kernel_rfl⟩
theorem any_ok (s : DS) (h : s.turn.natAbs < 2 ^ 39) : ∃ d s', d ∈ anys ∧ fn_law_any [.drw] s = .ok d s' := by
  obtain ⟨d, s', hd, e, _⟩ := pick_ok anys s h (by decide +kernel) (by decide +kernel)
  obtain ⟨a, ea, e1⟩ := any_is
  refine ⟨d, s', hd, ?_⟩
  unfold fn_law_any fnOf
  rw [ea]
  simp [fSeq, fRet, eCall, evs, eVar, fSkip]
  simp [bnd_at, e1, evs, eVar, e]
theorem good (ns : List Int) : LawGood f1_begun fc_begun g_law 2 9 ns := by
  refine ⟨⟨[], 0, [], 0⟩, bigs ns, ns.map absI, ?_⟩
  obtain ⟨w, s1, _, e1, _, t1⟩ := pick_ok [.str "", .str "w", .str "nothing of the kind"] ⟨bigs ns, 0, ns.map absI, 0⟩ (by show (0 : Int).natAbs < 2 ^ 39; decide) (by simp) (by simp)
  obtain ⟨d, s2, hd, e2⟩ := any_ok s1 (by have : (0 : Int).natAbs = 0 := rfl; have t1' : s1.turn.natAbs ≤ (0 : Int).natAbs + 1 := t1; omega)
  have e3 := rest_ok ns w d s2 hd
  refine ⟨s2, beg_ok ns _, ?_⟩
  rw [g_law_is]
  simp [fSeq, fPar, evsP, eCall, evs, eVar, eLst, eC, lift_some, line]
  simp [bnd_at, e1, e2, mkSl, setSl, e3]
end
end T00

open PySem PySem.W PyProof.Rows
theorem PySem.Challenge.cw_flatrooms_k00_errors_of_all_parts_holds : PySem.Challenge.rw_flatrooms_k00_errors_of_all_parts.Holds := by
  exact T00.law_holds (fun ns _ _ => T00.good ns)
