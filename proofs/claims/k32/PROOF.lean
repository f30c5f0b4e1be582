import PyProof.Rows.All
import Wide.All
import OpenK.AllK
import Wide.FinOn
import HandS.ForMost
import HandS.Exc
import HandS.TryOnly
import HandS.TryMany
import HandS.ExcOwn
import HandS.ExcInit
import HandS.WordsExc
import HandS.CallSlots
import HandS.Defaults
import HandS.IsInst
import HandS.Flow
import HandS.Wide
import HandS.TupAny
import HandS.TupLe
import HandS.SortRule
import HandS.SortInts
import HandS.TupSets
import HandS.SetFor
import HandS.Conv
import HandS.Zip
import HandS.Small
import HandS.Deep
import HandS.HeadEnd
import HandS.Head0
import HandS.Head1
import HandS.Head2
import HandS.HeadHook1
import HandS.HeadHook2
import KE.KEqNest
import KE.KDictLaw
import HandS.Dict
import PyProof.NeKinds
import HandS.SortOrd
import HandS.More
import HandS.Rev
import HandS.RevTup
import HandS.ExcCtx
import HandS.HotCalls
import HandS.ExcIs
import HandS.ExcField
import HandS.ExcInitHot
import HandS.Style
import KE.KExcIs
import KE.KStateDown
import HandS.Ends
import HandS.Words
import PySem.Challenge.RW_nightbook_k32_stays_refused
set_option Elab.async false
set_option linter.all false
set_option maxRecDepth 100000
set_option maxHeartbeats 0
set_option exponentiation.threshold 20000
namespace PL
open L2 PyProof.Rows PySem.Spec PySem

/-- data by value -/
inductive D where
  | non | bl (b : Bool) | int (i : Int) | str (x : Str)
  | tup (xs : List D) | lst (xs : List D)
  | dK (ks : List Key) (vs : List D) | dT (ks : List (List Key)) (vs : List D)
  | ex (c : Str) (xs : List D)

abbrev AS := Addr → Prop

/-- a list at a that nobody of M is: tracked, or known -/
def LR (K : PySem.W.Frag) (M : AS) (H : Hp) (a : Addr) (vs : List V) : Prop :=
  (¬ M a ∧ Rd H a (.lst vs)) ∨ SqL K (fun _ => none) a vs
def TR (K : PySem.W.Frag) (H : Hp) (a : Addr) (vs : List V) : Prop := H a = some (.tup vs)

mutual
def flat : D → Bool
  | .non | .bl _ | .int _ | .str _ => true
  | .tup ds => flats ds
  | .lst _ | .dK _ _ | .dT _ _ | .ex _ _ => false
def flats : List D → Bool
  | [] => true
  | d :: ds => flat d && flats ds
end
/-- the exception that is handled: its own address, that of its dict -/
def exQ (M : AS) (H : Hp) : List D → List V → V → Prop
  | [.int a], _, v => v = .ref a.toNat
  | [.int a, .int d, .str g, x], [_, _, _, u], v => v = .ref a.toNat ∧ flat x = true ∧ ¬ M d.toNat ∧ Rd H d.toNat (.xd [(g, u)])
  | _, _, _ => False
theorem exQ.ref {M : AS} {H : Hp} {xs : List D} {vs : List V} {v : V} (h : exQ M H xs vs v) : ∃ a, v = .ref a := by
  unfold exQ at h
  split at h
  · exact ⟨_, h⟩
  · exact ⟨_, h.1⟩
  · exact h.elim
mutual
def Rep (K : PySem.W.Frag) (M : AS) (H : Hp) : D → V → Prop
  | .non, v => v = .non
  | .bl b, v => v = .bl b
  | .int i, v => v = .int i
  | .str x, v => v = .str x
  | .tup ds, v => ∃ a vs, v = .ref a ∧ TR K H a vs ∧ Reps K M H ds vs
  | .lst ds, v => ∃ a vs, v = .ref a ∧ LR K M H a vs ∧ Reps K M H ds vs
  | .dK ks ds, v => ∃ a vs, v = .ref a ∧ (¬ M a ∧ Rd H a (.dK (ks.zip vs))) ∧ ks.length = ds.length ∧ Reps K M H ds vs
  | .dT ks ds, v => ∃ a vs, v = .ref a ∧ (¬ M a ∧ Rd H a (.dT (ks.zip vs))) ∧ ks.length = ds.length ∧ Reps K M H ds vs
  | .ex _ xs, v => ∃ vs, Reps K M H xs vs ∧ exQ M H xs vs v
def Reps (K : PySem.W.Frag) (M : AS) (H : Hp) : List D → List V → Prop
  | [], vs => vs = []
  | d :: ds, vs => ∃ v r, vs = v :: r ∧ Rep K M H d v ∧ Reps K M H ds r
end

section
variable {K : PySem.W.Frag} {M M' : AS} {H H' : Hp}
theorem LR.sq {a : Addr} {vs : List V} (h : LR K M H a vs) : SqL K H a vs := by
  rcases h with ⟨_, h⟩ | h
  · exact .inl h
  · rcases h with h | h
    · rcases h with h | ⟨_, h⟩ <;> cases h
    · exact .inr h
theorem LR.of_sq {a : Addr} {vs : List V} (h : SqL K H a vs) (n : ¬ M a) : LR K M H a vs := by
  rcases h with h | h
  · exact .inl ⟨n, h⟩
  · exact .inr (.inr h)
/-- what Rep leans on -/
structure Gr (K : PySem.W.Frag) (M : AS) (H : Hp) (M' : AS) (H' : Hp) : Prop where
  tup : ∀ a xs, H a = some (.tup xs) → H' a = some (.tup xs)
  cell : ∀ a o, ¬ M a → Rd H a o → (∀ xs, o ≠ .tup xs) → ¬ M' a ∧ Rd H' a o
theorem LR.gr (g : Gr K M H M' H') {a : Addr} {vs : List V} (h : LR K M H a vs) : LR K M' H' a vs := by
  rcases h with ⟨n, h⟩ | h
  · exact .inl (g.cell _ _ n h (fun _ z => nomatch z))
  · exact .inr h
theorem TR.gr (g : Gr K M H M' H') {a : Addr} {vs : List V} (h : TR K H a vs) : TR K H' a vs := g.tup _ _ h
theorem exQ.gr (g : Gr K M H M' H') {xs : List D} {vs : List V} {v : V} (h : exQ M H xs vs v) : exQ M' H' xs vs v := by
  unfold exQ at h ⊢
  split at h
  · exact h
  · obtain ⟨h1, h2, h3, h4⟩ := h
    exact ⟨h1, h2, g.cell _ _ h3 h4 (fun _ z => nomatch z)⟩
  · exact h.elim
theorem TR.sq {a : Addr} {vs : List V} (h : TR K H a vs) : SqT K H a vs := .inl (.inl h)
mutual
theorem Rep.gr (g : Gr K M H M' H') : ∀ (d : D) (v : V), Rep K M H d v → Rep K M' H' d v
  | .non, _, h => h
  | .bl _, _, h => h
  | .int _, _, h => h
  | .str _, _, h => h
  | .tup ds, _, ⟨a, vs, e, h, r⟩ => ⟨a, vs, e, h.gr g, Reps.gr g ds vs r⟩
  | .lst ds, _, ⟨a, vs, e, h, r⟩ => ⟨a, vs, e, h.gr g, Reps.gr g ds vs r⟩
  | .dK ks ds, _, ⟨a, vs, e, ⟨n, h⟩, l, r⟩ => ⟨a, vs, e, g.cell _ _ n h (fun _ z => nomatch z), l, Reps.gr g ds vs r⟩
  | .dT ks ds, _, ⟨a, vs, e, ⟨n, h⟩, l, r⟩ => ⟨a, vs, e, g.cell _ _ n h (fun _ z => nomatch z), l, Reps.gr g ds vs r⟩
  | .ex _ xs, _, ⟨vs, r, q⟩ => ⟨vs, Reps.gr g xs vs r, q.gr g⟩
theorem Reps.gr (g : Gr K M H M' H') : ∀ (ds : List D) (vs : List V), Reps K M H ds vs → Reps K M' H' ds vs
  | [], _, h => h
  | d :: ds, _, ⟨v, r, e, h1, h2⟩ => ⟨v, r, e, Rep.gr g d v h1, Reps.gr g ds r h2⟩
end
theorem Same.rd {a : Addr} {o : HO} (s : Same H H') (h : Rd H a o) : Rd H' a o := by
  rcases h with h | ⟨u, h⟩
  · exact .inl (s _ _ h)
  · exact .inr ⟨u, s _ _ h⟩
theorem Gr.same (s : Same H H') : Gr K M H M H' := ⟨fun _ _ h => s _ _ h, fun _ _ n h _ => ⟨n, Same.rd s h⟩⟩
/-- fewer to keep off -/
theorem Gr.less (h : ∀ a, M' a → M a) : Gr K M H M' H := ⟨fun _ _ h => h, fun _ _ n r _ => ⟨fun z => n (h _ z), r⟩⟩
theorem Gr.trans {M2 : AS} {H2 : Hp} (a : Gr K M H M' H') (b : Gr K M' H' M2 H2) : Gr K M H M2 H2 :=
  ⟨fun _ _ h => b.tup _ _ (a.tup _ _ h), fun _ _ n h t => let ⟨n1, h1⟩ := a.cell _ _ n h t; b.cell _ _ n1 h1 t⟩
/-- more to keep off, none of them tracked so far -/
theorem Gr.more (h : ∀ a, M' a → M a ∨ H a = none) : Gr K M H M' H := ⟨fun _ _ h => h, fun a o n r _ => ⟨fun z => by
  rcases h a z with y | y
  · exact n y
  · rcases r with r | ⟨u, r⟩ <;> (rw [y] at r; cases r), r⟩⟩
/-- a cell of M is written -/
theorem Gr.write {p : Addr} {o o' : HO} (hp : M p) (h : H p = some o) (nt : ∀ xs, o ≠ .tup xs) (nf : ∀ u x, o ≠ .frz u x) : Gr K M H M (upd H p o') := by
  refine ⟨fun a xs r => ?_, fun a x n r _ => ⟨n, ?_⟩⟩
  · rw [upd_ne (fun e => by subst e; rw [h] at r; cases r; exact nt _ rfl)]; exact r
  · have ne : a ≠ p := fun e => n (e ▸ hp)
    rcases r with r | ⟨u, r⟩
    · exact .inl (by rw [upd_ne ne]; exact r)
    · exact .inr ⟨u, by rw [upd_ne ne]; exact r⟩
theorem Rep.same (s : Same H H') {d : D} {v : V} (h : Rep K M H d v) : Rep K M H' d v := Rep.gr (Gr.same s) d v h
theorem Reps.same (s : Same H H') {d : List D} {v : List V} (h : Reps K M H d v) : Reps K M H' d v := Reps.gr (Gr.same s) d v h
theorem Rep.less (h : ∀ a, M' a → M a) {d : D} {v : V} (r : Rep K M H d v) : Rep K M' H d v := Rep.gr (Gr.less h) d v r
theorem Reps.less (h : ∀ a, M' a → M a) {d : List D} {v : List V} (r : Reps K M H d v) : Reps K M' H d v := Reps.gr (Gr.less h) d v r
theorem Reps.len : ∀ {ds : List D} {vs : List V}, Reps K M H ds vs → vs.length = ds.length
  | [], _, h => by have h : _ = [] := h; subst h; rfl
  | _ :: ds, _, ⟨v, r, e, _, h⟩ => by subst e; simp [Reps.len h]
theorem Reps.get : ∀ {ds : List D} {vs : List V} {i : Nat} {d : D}, Reps K M H ds vs → ds[i]? = some d → ∃ v, vs[i]? = some v ∧ Rep K M H d v
  | [], _, _, _, _, e => by simp at e
  | _ :: ds, _, 0, d, ⟨v, r, e, h1, _⟩, q => by
    subst e
    have q : _ = d := Option.some.inj q
    subst q
    exact ⟨v, rfl, h1⟩
  | _ :: ds, _, i + 1, d, ⟨v, r, e, _, h2⟩, q => by
    subst e
    obtain ⟨u, e, x⟩ := Reps.get (i := i) (d := d) h2 (by simpa using q)
    exact ⟨u, by simpa using e, x⟩
theorem Reps.app : ∀ {ds es : List D} {vs us : List V}, Reps K M H ds vs → Reps K M H es us → Reps K M H (ds ++ es) (vs ++ us)
  | [], _, _, _, h, g => by have h : _ = [] := h; subst h; exact g
  | _ :: ds, _, _, _, ⟨v, r, e, h1, h2⟩, g => by subst e; exact ⟨v, _, rfl, h1, Reps.app h2 g⟩
theorem Reps.one {d : D} {v : V} (h : Rep K M H d v) : Reps K M H [d] [v] := ⟨v, [], rfl, h, rfl⟩
theorem Reps.take : ∀ {ds : List D} {vs : List V} (n : Nat), Reps K M H ds vs → Reps K M H (ds.take n) (vs.take n)
  | _, _, 0, _ => rfl
  | [], _, n + 1, h => by have h : _ = [] := h; subst h; rfl
  | _ :: ds, _, n + 1, ⟨v, r, e, h1, h2⟩ => by subst e; exact ⟨v, _, rfl, h1, Reps.take n h2⟩
theorem Reps.drop : ∀ {ds : List D} {vs : List V} (n : Nat), Reps K M H ds vs → Reps K M H (ds.drop n) (vs.drop n)
  | _, _, 0, h => h
  | [], _, n + 1, h => by have h : _ = [] := h; subst h; rfl
  | _ :: ds, _, n + 1, ⟨v, r, e, h1, h2⟩ => by subst e; exact Reps.drop n h2
theorem Reps.set : ∀ {ds : List D} {vs : List V} {d : D} {v : V} (n : Nat), Reps K M H ds vs → Rep K M H d v → Reps K M H (ds.set n d) (vs.set n v)
  | [], _, _, _, _, h, _ => by have h : _ = [] := h; subst h; rfl
  | _ :: ds, _, _, _, 0, ⟨v, r, e, h1, h2⟩, x => by subst e; exact ⟨_, _, rfl, x, h2⟩
  | _ :: ds, _, _, _, n + 1, ⟨v, r, e, h1, h2⟩, x => by subst e; exact ⟨_, _, rfl, h1, Reps.set n h2 x⟩
theorem Reps.rep {ds : List D} {vs : List V} (h : Reps K M H ds vs) : ∀ n : Nat, Reps K M H (List.replicate n ds).flatten (List.replicate n vs).flatten
  | 0 => rfl
  | n + 1 => by
    (rw [List.replicate_succ, List.replicate_succ, List.flatten_cons, List.flatten_cons])
    exact Reps.app h (Reps.rep h n)
theorem Reps.eraseIdx : ∀ {ds : List D} {vs : List V} (n : Nat), Reps K M H ds vs → Reps K M H (ds.eraseIdx n) (vs.eraseIdx n)
  | [], _, n, h => by have h : _ = [] := h; subst h; rfl
  | _ :: ds, _, 0, ⟨v, r, e, h1, h2⟩ => by subst e; exact h2
  | _ :: ds, _, n + 1, ⟨v, r, e, h1, h2⟩ => by subst e; exact ⟨_, _, rfl, h1, Reps.eraseIdx n h2⟩
theorem Reps.reverse : ∀ {ds : List D} {vs : List V}, Reps K M H ds vs → Reps K M H ds.reverse vs.reverse
  | [], _, h => by have h : _ = [] := h; subst h; rfl
  | _ :: ds, _, ⟨v, r, e, h1, h2⟩ => by
    subst e
    (rw [List.reverse_cons, List.reverse_cons])
    exact Reps.app (Reps.reverse h2) (Reps.one h1)
theorem Reps.ints : ∀ {ns : List Int} {vs : List V}, Reps K M H (ns.map D.int) vs → vs = ns.map V.int
  | [], _, h => h
  | n :: ns, _, ⟨v, r, e, h1, h2⟩ => by
    subst e
    have h1 : v = .int n := h1
    rw [h1, Reps.ints h2]; rfl
theorem Reps.of_ints : ∀ {ns : List Int}, Reps K M H (ns.map D.int) (ns.map V.int)
  | [] => rfl
  | n :: ns => ⟨_, _, rfl, rfl, Reps.of_ints⟩
theorem Reps.bls : ∀ {ns : List Bool} {vs : List V}, Reps K M H (ns.map D.bl) vs → vs = ns.map V.bl
  | [], _, h => h
  | n :: ns, _, ⟨v, r, e, h1, h2⟩ => by
    subst e
    have h1 : v = .bl n := h1
    rw [h1, Reps.bls h2]; rfl
end

section
variable {K : PySem.W.Frag} {M M' : AS} {H H' : Hp}
mutual
theorem Rep.flat_any : ∀ (d : D) (v : V), flat d = true → Rep K M H d v → Rep K M' H d v
  | .non, _, _, h => h
  | .bl _, _, _, h => h
  | .int _, _, _, h => h
  | .str _, _, _, h => h
  | .tup ds, _, f, ⟨a, vs, e, h, r⟩ => ⟨a, vs, e, h, Reps.flat_any ds vs f r⟩
  | .lst _, _, f, _ => nomatch f
  | .dK _ _, _, f, _ => nomatch f
  | .dT _ _, _, f, _ => nomatch f
  | .ex _ _, _, f, _ => nomatch f
theorem Reps.flat_any : ∀ (ds : List D) (vs : List V), flats ds = true → Reps K M H ds vs → Reps K M' H ds vs
  | [], _, _, h => h
  | d :: ds, _, f, ⟨v, r, e, h1, h2⟩ => by
    have f : (flat d && flats ds) = true := f
    rw [Bool.and_eq_true] at f
    exact ⟨v, r, e, Rep.flat_any d v f.1 h1, Reps.flat_any ds r f.2 h2⟩
end
end

/-- what stands at a key -/
def lookK {κ : Type} [DecidableEq κ] : List κ → List D → κ → Option D
  | k :: ks, v :: vs, j => if k = j then some v else lookK ks vs j
  | _, _, _ => none
/-- is there -/
def memK {κ : Type} [DecidableEq κ] (ks : List κ) (k : κ) : Bool := ks.any fun j => decide (j = k)
def repK {κ α : Type} [DecidableEq κ] : List κ → List α → κ → α → List α
  | k :: ks, v :: vs, j, x => (if k = j then x else v) :: repK ks vs j x
  | _, vs, _, _ => vs
def dropKK {κ : Type} [DecidableEq κ] (ks : List κ) (j : κ) : List κ := ks.filter fun k => decide (k ≠ j)
def dropKD {κ α : Type} [DecidableEq κ] : List κ → List α → κ → List α
  | k :: ks, v :: vs, j => if k = j then dropKD ks vs j else v :: dropKD ks vs j
  | _, vs, _ => vs
def kyOf : D → Option Key
  | .int i => some (.inl i)
  | .str x => some (.inr x)
  | _ => none
def kysOf : List D → Option (List Key)
  | [] => some []
  | d :: ds => (kyOf d).bind fun k => (kysOf ds).map (k :: ·)
def keyD : Key → D
  | .inl i => .int i
  | .inr x => .str x
mutual
def toPy : D → PyData
  | .non => .none
  | .bl b => .bool b
  | .int i => .int i
  | .str x => .str x
  | .tup ds => .tuple (toPys ds)
  | .lst ds => .list (toPys ds)
  | .dK _ _ | .dT _ _ | .ex _ _ => .none
def toPys : List D → List PyData
  | [] => []
  | d :: ds => toPy d :: toPys ds
end
/-- no dict, no exception in it; not deeper than n -/
def plainD : Nat → D → Bool
  | 0, _ => false
  | _ + 1, .non | _ + 1, .bl _ | _ + 1, .int _ => true
  | _ + 1, .str x => PyData.strOk x
  | n + 1, .tup ds | n + 1, .lst ds => ds.all (plainD n)
  | _ + 1, .dK _ _ | _ + 1, .dT _ _ | _ + 1, .ex _ _ => false
mutual
/-- == of such data -/
def deq : D → D → Bool
  | .non, .non => true
  | .bl a, .bl b => a == b
  | .bl a, .int j => (if a then 1 else 0) == j
  | .int i, .bl b => i == (if b then 1 else 0)
  | .int i, .int j => i == j
  | .str x, .str y => x == y
  | .lst xs, .lst ys => deqs xs ys
  | .tup xs, .tup ys => deqs xs ys
  | _, _ => false
def deqs : List D → List D → Bool
  | [], [] => true
  | x :: xs, y :: ys => deq x y && deqs xs ys
  | _, _ => false
end
/-- two by two -/
def eqQL (f : D → D → Option Bool) : List D → List D → Option Bool
  | [], [] => some true
  | x :: xs, y :: ys => (f x y).bind fun b => (eqQL f xs ys).map fun c => b && c
  | _, _ => none
def eqQD (f : D → D → Option Bool) (js : List Key) (ws : List D) : List Key → List D → Option Bool
  | k :: ks, v :: vs => (match lookK js ws k with
    | some w => f v w
    | none => some false).bind fun b => (eqQD f js ws ks vs).map fun c => b && c
  | _, _ => some true
/-- == of data with dicts in it, where it is plain -/
def eqQ : Nat → D → D → Option Bool
  | 0, _, _ => none
  | n + 1, d, e => if (plainD (n + 1) d && plainD (n + 1) e) = true then some (deq d e) else match d, e with
    | .lst xs, .lst ys => eqQL (eqQ n) xs ys
    | .tup xs, .tup ys => eqQL (eqQ n) xs ys
    | .dK ks vs, .dK js ws => if ks.Nodup ∧ ks.length = vs.length ∧ js.length = ws.length then (eqQD (eqQ n) js ws ks vs).map fun b => decide (ks.length = js.length) && b else none
    | _, _ => none
end PL

namespace PL
open L2 PyProof.Rows PySem.Spec PySem

/-- a result: a value, an exception, or no word -/
inductive R (α : Type) where
  | ok (a : α) | ex (e : D) | no
def R.bind {α β : Type} : R α → (α → R β) → R β
  | .ok a, f => f a
  | .ex e, _ => .ex e
  | .no, _ => .no
@[simp] theorem R.bind_ok {α β : Type} {a : α} {f : α → R β} : R.bind (.ok a) f = f a := rfl
@[simp] theorem R.bind_ex {α β : Type} {e : D} {f : α → R β} : R.bind (.ex e) f = .ex e := rfl
@[simp] theorem R.bind_no {α β : Type} {f : α → R β} : R.bind (.no) f = .no := rfl

abbrev En := List (Option D)
def En.at (r : En) (i : Nat) : R D := match r[i]? with
  | some (some d) => .ok d
  | _ => .no
/-- the slots forgotten -/
def wipeE (r : En) : List Nat → En
  | [] => r
  | v :: vs => (wipeE r vs).set v none

/-- built-in functions -/
inductive B where
  | len | max | min | abs | sum | list | tuple | sorted | int | all | any | str | setsorted | setlen | maxd | mind | dict | listrange1 | listrange2 | sortedrev | listrev

/-- forms of one operand, of two -/
inductive U1 where
  | lrg1 | rvs | dcp | strI
inductive U2 where
  | maxd | mind | dlit | cnt
mutual
inductive IE where
  | var (i : Nat)
  | con (d : D)
  | glob (j : Nat)
  | bin (o : Operator) (a b : IE)
  | rep (a b : IE)
  | neg (a : IE)
  | cmp (o : CmpOp) (a b : IE)
  | cmp2 (o p : CmpOp) (a b c : IE)
  | cmp3 (o p q : CmpOp) (a b c d : IE)
  | not (a : IE)
  | and (es : Es)
  | or (es : Es)
  | ifx (c a b : IE)
  | tup (es : Es)
  | lst (es : Es)
  | sub (a i : IE)
  | slc (a : IE) (lo hi : IO)
  | bi (f : B) (es : Es)
  | lrev (a : IE)
  | lrg (a b : IE)
  | sset (a : IE)
  | idx (a b : IE)
  | u0 (t : Bool)
  | u1 (k : U1) (a : IE)
  | u2 (k : U2) (a b : IE)
  | dget (a k d : IE)
  | fls (a : IE)
  | callk (j : Nat) (es : Es) (e : IE)
  | isi (a : IE) (t : String)
  | exIs (i : Nat) (cs : List Str)
  | exAt (i : Nat) (f : Str)
  | call (j : Nat) (es : Es) (ds : List D) (fl : Bool)
  | comp (own : List Nat) (e : IE) (t : IT) (it : II) (c : IO)
inductive Es where
  | nil | cons (e : IE) (es : Es)
inductive IO where
  | none | some (e : IE)
inductive IT where
  | nm (i : Nat) | tp (ts : Ts)
inductive Ts where
  | nil | cons (t : IT) (ts : Ts)
inductive II where
  | ex (e : IE) | rg1 (a : IE) | rg2 (a b : IE) | rg3 (a b c : IE) | enum (e : IE) | zip (a b : IE)
end

def b2i (b : Bool) : Int := if b then 1 else 0
/-- a product that the model multiplies -/
def mulB (i j : Int) : Bool := decide (i.natAbs < 2 ^ 64) || (decide (j.natAbs < 2 ^ 64) || decide (i.natAbs.log2 + j.natAbs.log2 < 1000000))
def divB (j : Int) : Bool := decide (0 < j) && (decide (j < 1073741824) || decide (j.natAbs.log2 < 9000))
def divN (j : Int) : Bool := decide (j < 0) && decide (j.natAbs.log2 < 9000)
def powB (i j : Int) : Bool := decide (0 ≤ j) && (decide (j ≤ 1000000) && decide (i.natAbs < 2 ^ 64))
def binD : Operator → D → D → R D
  | .Add, .int i, .int j => .ok (.int (i + j))
  | .Sub, .int i, .int j => .ok (.int (i - j))
  | .Mult, .int i, .int j => if mulB i j then .ok (.int (i * j)) else .no
  | .FloorDiv, .int i, .int j => if divB j then .ok (.int (i / j)) else if divN j then .ok (.int (i.fdiv j)) else .no
  | .Mod, .int i, .int j => if 0 < j then .ok (.int (i % j)) else .no
  | .Pow, .int i, .int j => if powB i j then .ok (.int (i ^ j.toNat)) else .no
  | .LShift, .int i, .int j => if powB i j then .ok (.int (i * 2 ^ j.toNat)) else .no
  | .RShift, .int i, .int j => if 0 ≤ j then .ok (.int (i / 2 ^ j.toNat)) else .no
  | .BitAnd, .int i, .int j => .ok (.int (Builtin.bitAnd i j))
  | .Add, .lst xs, .lst ys => if xs.length + ys.length ≤ sizeLine then .ok (.lst (xs ++ ys)) else .no
  | .Add, .tup xs, .tup ys => if xs.length + ys.length ≤ sizeLine then .ok (.tup (xs ++ ys)) else .no
  | .Add, .str x, .str y => if x.length + y.length ≤ sizeLine then .ok (.str (x ++ y)) else .no
  | _, _, _ => .no
def repD : D → D → R D
  | .lst xs, .int k => if -(2 ^ 63) ≤ k ∧ k < 2 ^ 63 ∧ xs.length * k.toNat ≤ sizeLine then .ok (.lst (List.replicate k.toNat xs).flatten) else .no
  | _, _ => .no
def negD : D → R D
  | .int i => .ok (.int (-i))
  | _ => .no
/-- nothing in it but numbers, truths, texts, None -/
def flatD : D → Bool
  | .non | .bl _ | .int _ | .str _ => true
  | _ => false
/-- scalars whose == is plain -/
def sclD : D → D → Bool
  | .bl _, .int _ => false
  | .int _, .bl _ => false
  | d, e => flatD d && flatD e
def isNon : D → Bool
  | .non => true
  | _ => false
def eqR (d e : D) : R Bool := match eqQ 60 d e with
  | some b => .ok b
  | none => .no
/-- lists, not alike -/
def neR : D → D → R Bool
  | .lst xs, .lst ys => (match eqQ 60 (.lst xs) (.lst ys) with
    | some b => .ok (!b)
    | none => .no)
  | _, _ => .no
def cmpD : CmpOp → D → D → R Bool
  | .Lt, .int i, .int j => .ok (decide (i < j))
  | .LtE, .int i, .int j => .ok (decide (i ≤ j))
  | .Gt, .int i, .int j => .ok (decide (j < i))
  | .GtE, .int i, .int j => .ok (decide (j ≤ i))
  | .Eq, d, e => if sclD d e || (plainD 60 d && plainD 60 e) then .ok (deq d e) else eqR d e
  | .NotEq, d, e => if sclD d e || (plainD 60 d && plainD 60 e) then .ok (!deq d e) else neR d e
  | .Is, .bl a, .bl b => .ok (decide (a = b))
  | .IsNot, .bl a, .bl b => .ok (!decide (a = b))
  | .Is, d, .non => .ok (isNon d)
  | .IsNot, d, .non => .ok (!isNon d)
  | .In, d, .lst ds => if (flatD d && ds.all flatD) || (plainD 60 d && plainD 60 (.lst ds)) then .ok (ds.any fun z => deq z d) else .no
  | .NotIn, d, .lst ds => if (flatD d && ds.all flatD) || (plainD 60 d && plainD 60 (.lst ds)) then .ok (!ds.any fun z => deq z d) else .no
  | .In, d, .tup ds => if flatD d && ds.all flatD then .ok (ds.any fun z => deq z d) else .no
  | .NotIn, d, .tup ds => if flatD d && ds.all flatD then .ok (!ds.any fun z => deq z d) else .no
  | .In, d, .dK ks _ => (match kyOf d with | some k => .ok (memK ks k) | none => .no)
  | .NotIn, d, .dK ks _ => (match kyOf d with | some k => .ok (!memK ks k) | none => .no)
  | .In, .tup ds, .dT ks _ => (match kysOf ds with | some k => .ok (memK ks k) | none => .no)
  | .NotIn, .tup ds, .dT ks _ => (match kysOf ds with | some k => .ok (!memK ks k) | none => .no)
  | _, _, _ => .no
def blR (r : R Bool) : R D := r.bind fun b => .ok (.bl b)
def toB : D → R Bool
  | .bl b => .ok b
  | _ => .no
def subD : D → D → R D
  | .lst xs, .int i => (match atI xs i with | some d => .ok d | none => .no)
  | .tup xs, .int i => (match atI xs i with | some d => .ok d | none => .no)
  | .str z, .int i => if z.length ≤ sizeLine then (match atI z.cps.toList i with | some c => .ok (.str ⟨#[c]⟩) | none => .no) else .no
  | .dK ks vs, d => (match kyOf d with | some k => (match lookK ks vs k with | some v => .ok v | none => .no) | none => .no)
  | .dT ks vs, .tup ds => (match kysOf ds with | some k => (match lookK ks vs k with | some v => .ok v | none => .no) | none => .no)
  | _, _ => .no
/-- cut, as a slice cuts -/
def cut {α : Type} (xs : List α) (lo hi : Option Int) : List α := (xs.drop (HT.sIx xs.length 0 lo)).take (HT.sIx xs.length xs.length hi - HT.sIx xs.length 0 lo)
def slcD : D → Option Int → Option Int → R D
  | .lst xs, lo, hi => .ok (.lst (cut xs lo hi))
  | .tup xs, lo, hi => .ok (.tup (cut xs lo hi))
  | _, _, _ => .no
def isiD : D → String → R Bool
  | .non, t => if t = "int" ∨ t = "bool" ∨ t = "str" ∨ t = "tuple" ∨ t = "list" then .ok false else .no
  | .bl _, t => if t = "int" ∨ t = "bool" then .ok true else if t = "str" ∨ t = "tuple" ∨ t = "list" then .ok false else .no
  | .int _, t => if t = "int" then .ok true else if t = "bool" ∨ t = "str" ∨ t = "tuple" ∨ t = "list" then .ok false else .no
  | .str _, t => if t = "str" then .ok true else if t = "int" ∨ t = "bool" ∨ t = "tuple" ∨ t = "list" then .ok false else .no
  | .tup _, t => if t = "tuple" then .ok true else if t = "int" ∨ t = "bool" ∨ t = "str" ∨ t = "list" then .ok false else .no
  | .lst _, t => if t = "list" then .ok true else if t = "int" ∨ t = "bool" ∨ t = "str" ∨ t = "tuple" then .ok false else .no
  | .dK _ _, t => if t = "int" ∨ t = "bool" ∨ t = "str" ∨ t = "tuple" ∨ t = "list" then .ok false else .no
  | _, _ => .no
/-- all of them ints -/
def intsOf : List D → Option (List Int)
  | [] => some []
  | .int i :: r => (intsOf r).map (i :: ·)
  | _ => none
def blsOf : List D → Option (List Bool)
  | [] => some []
  | .bl i :: r => (blsOf r).map (i :: ·)
  | _ => none
/-- keys, all ints -/
def intKs : List Key → Option (List Int)
  | [] => some []
  | .inl i :: r => (intKs r).map (i :: ·)
  | .inr _ :: _ => none
/-- pairs of ints -/
def prsOf : List D → Option (List (Int × Int))
  | [] => some []
  | .tup [.int i, .int j] :: r => (prsOf r).map ((i, j) :: ·)
  | _ => none
def maxL : Int → List Int → Int
  | m, [] => m
  | m, x :: r => maxL (if x > m then x else m) r
def minL : Int → List Int → Int
  | m, [] => m
  | m, x :: r => minL (if x < m then x else m) r
def insI (x : Int) : (List Int → List Int)
  | [] => [x]
  | y :: r => if x ≤ y then x :: y :: r else y :: insI x r
def sortI : List Int → List Int
  | [] => []
  | x :: r => insI x (sortI r)
def prLe (a b : Int × Int) : Bool := decide (a.1 < b.1) || (decide (a.1 = b.1) && decide (a.2 ≤ b.2))
def insP (x : Int × Int) : List (Int × Int) → List (Int × Int)
  | [] => [x]
  | y :: r => if prLe x y then x :: y :: r else y :: insP x r
def sortP : List (Int × Int) → List (Int × Int)
  | [] => []
  | x :: r => insP x (sortP r)
def dedI : List Int → List Int
  | [] => []
  | x :: r => if x ∈ r then dedI r else x :: dedI r
def rangeI (a : Int) (n : Nat) : List Int := (List.range n).map fun i => a + (i : Nat)
def rngOk (i j : Int) : Bool := decide (-(2 ^ 62) ≤ i) && (decide (i < 2 ^ 62) && (decide (-(2 ^ 62) ≤ j) && decide (j < 2 ^ 62)))
def biD : B → List D → R D
  | .len, [.lst xs] => .ok (.int xs.length)
  | .len, [.tup xs] => .ok (.int xs.length)
  | .len, [.str z] => if z.length ≤ sizeLine then .ok (.int z.length) else .no
  | .len, [.dK ks _] => .ok (.int ks.length)
  | .list, [.dK ks _] => .ok (.lst (ks.map keyD))
  | .sorted, [.dK ks _] => (match intKs ks with
    | some ns => if ns.length ≤ 4000 then .ok (.lst ((sortI ns).map .int)) else .no
    | none => .no)
  | .max, [.int i, .int j] => .ok (.int (if j > i then j else i))
  | .min, [.int i, .int j] => .ok (.int (if j < i then j else i))
  | .abs, [.int i] => .ok (.int (if i < 0 then -i else i))
  | .sum, [.lst xs] => (match intsOf xs with | some ns => .ok (.int ns.sum) | none => .no)
  | .max, [.lst xs] => (match intsOf xs with | some (n :: ns) => .ok (.int (maxL n ns)) | _ => .no)
  | .min, [.lst xs] => (match intsOf xs with | some (n :: ns) => .ok (.int (minL n ns)) | _ => .no)
  | .list, [.lst xs] => .ok (.lst xs)
  | .list, [.tup xs] => .ok (.lst xs)
  | .tuple, [.lst xs] => .ok (.tup xs)
  | .tuple, [.tup xs] => .ok (.tup xs)
  | .int, [.bl b] => .ok (.int (b2i b))
  | .int, [.int i] => .ok (.int i)
  | .all, [.lst xs] => (match blsOf xs with | some bs => .ok (.bl (bs.all id)) | none => .no)
  | .any, [.lst xs] => (match blsOf xs with | some bs => .ok (.bl (bs.any id)) | none => .no)
  | .sorted, [.lst xs] => (match intsOf xs with
    | some ns => if ns.length ≤ 100000 then .ok (.lst ((sortI ns).map .int)) else .no
    | none => (match prsOf xs with
      | some ps => if ps.length ≤ 100000 then .ok (.lst ((sortP ps).map fun p => .tup [.int p.1, .int p.2])) else .no
      | none => .no))
  | .setsorted, [.lst xs] => (match intsOf xs with
    | some ns => if ns.length ≤ 1000 then .ok (.lst ((sortI (dedI ns)).map .int)) else .no
    | none => .no)
  | .listrange1, [.int n] => if rngOk 0 n && decide (n ≤ 100000) then .ok (.lst ((rangeI 0 n.toNat).map .int)) else .no
  | .listrange2, [.int i, .int n] => if rngOk i n && decide (n - i ≤ 100000) then .ok (.lst ((rangeI i (n - i).toNat).map .int)) else .no
  | _, _ => .no

/-- list(reversed(x)) -/
def lrevD : D → R D
  | .lst xs => .ok (.lst xs.reverse)
  | _ => .no
/-- list(range(i, j)) -/
def lrgD : D → D → R D
  | .int i, .int j => if rngOk i j && decide (j - i ≤ 100000) then .ok (.lst ((rangeI i (j - i).toNat).map .int)) else .no
  | _, _ => .no
def u1D : U1 → D → R D
  | .lrg1, d => lrgD (.int 0) d
  | .rvs, d => lrevD d
  | .dcp, .dK ks vs => .ok (.dK ks vs)
  | .strI, .int i => if i.natAbs.log2 < 1920 then .ok (.str (toString i)) else .no
  | _, _ => .no
def u2D : U2 → D → D → R D
  | .maxd, .lst xs, .int m => (match intsOf xs with | some [] => .ok (.int m) | some (n :: ns) => .ok (.int (maxL n ns)) | none => .no)
  | .mind, .lst xs, .int m => (match intsOf xs with | some [] => .ok (.int m) | some (n :: ns) => .ok (.int (minL n ns)) | none => .no)
  | .dlit, k, v => (match kyOf k with | some k => .ok (.dK [k] [v]) | none => .no)
  | .cnt, .lst xs, d => if flatD d && xs.all flatD then .ok (.int ((xs.filter fun z => deq z d).length : Nat)) else .no
  | _, _, _ => .no
/-- every class of refusals stands straight under InnError -/
def isSub (c y : Str) : Bool := decide (c = y) || (decide (y = "InnError") || decide (y = "ValueError"))
def exV (a b : Int) : D → D
  | .ex c [] => .ex c [.int a]
  | .ex c (x :: xs) => .ex c (.int a :: .int b :: x :: xs)
  | d => d
/-- the exception that is handled -/
def curE (T : List (Str × D)) : Option (Int × Str × List D) := match T.lookup ("" : Str) with
  | some (.ex c (.int a :: xs)) => some (a, c, xs)
  | _ => none
def exIsD (T : List (Str × D)) (d : D) (cs : List Str) : R D := match d, curE T with
  | .ex _ [.int a], some (b, c, []) => if a = b then .ok (.bl (cs.any fun y => isSub c y)) else .no
  | .ex _ (.int a :: .int e :: _), some (b, c, .int e2 :: _) => if a = b ∧ e = e2 then .ok (.bl (cs.any fun y => isSub c y)) else .no
  | _, _ => .no
def exAtD (T : List (Str × D)) (d : D) (f : Str) : R D := match d, curE T with
  | .ex _ [.int a, .int e, .str g, x], some (b, _, .int e2 :: .str g2 :: _) => if a = b ∧ e = e2 ∧ f = g ∧ f = g2 then .ok x else .no
  | _, _ => .no
def mtc (c : Str) : D → Bool
  | .ex x _ => isSub x c
  | _ => false
/-- d.get(k, x) -/
def dgetD : D → D → D → R D
  | .dK ks vs, d, x => (match kyOf d with | some k => .ok ((lookK ks vs k).getD x) | none => .no)
  | .dT ks vs, .tup ds, x => (match kysOf ds with | some k => .ok ((lookK ks vs k).getD x) | none => .no)
  | _, _, _ => .no
def isDct : D → Bool
  | .dK _ _ => true
  | .dT _ _ => true
  | _ => false
def dctD (d : D) : R D := if isDct d then .ok d else .no
/-- sorted(set(x)) -/
def ssetD : D → R D
  | .lst xs => (match intsOf xs with
    | some ns => if ns.length ≤ 4000 then .ok (.lst ((sortI (dedI ns)).map .int)) else .no
    | none => .no)
  | _ => .no
/-- a list of things that cannot be changed -/
def flsD : D → R D
  | .lst xs => if flats xs then .ok (.lst xs) else .no
  | _ => .no
/-- the first place of a thing in a list -/
def idxD (xs : List D) (d : D) : R D := if flatD d && xs.all flatD then (match xs.findIdx? (fun z => deq z d) with | some j => .ok (.int (j : Nat)) | none => .no) else .no
mutual
def asgT : IT → D → En → R En
  | .nm i, d, r => .ok (r.set i (some d))
  | .tp ts, .tup ds, r => asgTs ts ds r
  | .tp ts, .lst ds, r => asgTs ts ds r
  | .tp _, _, _ => .no
def asgTs : Ts → List D → En → R En
  | .nil, [], r => .ok r
  | .cons t ts, d :: ds, r => (asgT t d r).bind fun r1 => asgTs ts ds r1
  | _, _, _ => .no
end
mutual
def tgts : IT → List Nat
  | .nm i => [i]
  | .tp ts => tgtss ts
def tgtss : Ts → List Nat
  | .nil => []
  | .cons t ts => tgts t ++ tgtss ts
end
def intD : D → R Int
  | .int i => .ok i
  | _ => .no
def itemsD : D → R (List D)
  | .lst ds => .ok ds
  | .tup ds => .ok ds
  | .str z => .ok (z.cps.toList.map fun c => .str ⟨#[c]⟩)
  | _ => .no
def listD : D → R (List D)
  | .lst ds => .ok ds
  | _ => .no
/-- i, i + 1, .. -/
def enumD : Nat → List D → List D
  | _, [] => []
  | k, d :: ds => .tup [.int (k : Nat), d] :: enumD (k + 1) ds
def zipD : List D → List D → List D
  | d :: ds, e :: es => .tup [d, e] :: zipD ds es
  | _, _ => []
def exno {α : Type} : R α → R α
  | .ex _ => .no
  | r => r
@[simp] theorem exno_ok {α : Type} {a : α} : exno (.ok a) = .ok a := rfl
@[simp] theorem exno_no {α : Type} : exno (.no : R α) = .no := rfl
def optC : Option D → List D → List D
  | some x, r => x :: r
  | none, r => r
/-- the items that pass, mapped -/
def compD (f : D → R (Option D)) : List D → R (List D)
  | [] => .ok []
  | d :: ds => (exno (f d)).bind fun o => (compD f ds).bind fun r => .ok (optC o r)

abbrev Ga := Nat → List D → R D
structure Tab where
  cst : List (Str × D)

mutual
/-- an expression's value -/
def evE (T : List (Str × D)) (G : Ga) : IE → En → R D
  | .var i, r => r.at i
  | .con d, _ => .ok d
  | .glob j, _ => (match T[j]? with | some c => .ok c.2 | none => .no)
  | .bin o a b, r => (evE T G a r).bind fun x => (evE T G b r).bind fun y => binD o x y
  | .rep a b, r => (evE T G a r).bind fun x => (evE T G b r).bind fun y => repD x y
  | .neg a, r => (evE T G a r).bind negD
  | .cmp o a b, r => (evE T G a r).bind fun x => (evE T G b r).bind fun y => blR (cmpD o x y)
  | .cmp2 o p a b c, r => (evE T G a r).bind fun x => (evE T G b r).bind fun y => (cmpD o x y).bind fun k => if k = true then (evE T G c r).bind fun z => blR (cmpD p y z) else .ok (.bl false)
  | .cmp3 o p q a b c d, r => (evE T G a r).bind fun x => (evE T G b r).bind fun y => (cmpD o x y).bind fun k => if k = true then (evE T G c r).bind fun z => (cmpD p y z).bind fun k2 => if k2 = true then
      (evE T G d r).bind fun u => blR (cmpD q z u) else .ok (.bl false) else .ok (.bl false)
  | .not a, r => (evE T G a r).bind fun x => (toB x).bind fun b => .ok (.bl (!b))
  | .and es, r => evAnd T G es r
  | .or es, r => evOr T G es r
  | .ifx c a b, r => (evE T G c r).bind fun x => (toB x).bind fun k => if k = true then evE T G a r else evE T G b r
  | .tup es, r => (evEs T G es r).bind fun xs => .ok (.tup xs)
  | .lst es, r => (evEs T G es r).bind fun xs => .ok (.lst xs)
  | .sub a i, r => (evE T G a r).bind fun x => (evE T G i r).bind fun y => subD x y
  | .slc a lo hi, r => (evE T G a r).bind fun x => (evO T G lo r).bind fun l => (evO T G hi r).bind fun h => slcD x l h
  | .bi f es, r => (evEs T G es r).bind fun xs => biD f xs
  | .lrev a, r => (evE T G a r).bind lrevD
  | .lrg a b, r => (evE T G a r).bind fun x => (evE T G b r).bind fun y => lrgD x y
  | .sset a, r => (evE T G a r).bind ssetD
  | .fls a, r => (evE T G a r).bind flsD
  | .idx a b, r => (evE T G a r).bind fun x => (listD x).bind fun xs => (evE T G b r).bind fun y => idxD xs y
  | .u0 t, _ => .ok (if t then .dT [] [] else .dK [] [])
  | .u1 k a, r => (evE T G a r).bind fun x => u1D k x
  | .u2 k a b, r => (evE T G a r).bind fun x => (evE T G b r).bind fun y => u2D k x y
  | .dget a k d, r => (evE T G a r).bind fun x => (dctD x).bind fun x => (evE T G k r).bind fun y => (evE T G d r).bind fun z => dgetD x y z
  | .isi a t, r => (evE T G a r).bind fun x => blR (isiD x t)
  | .exIs i cs, r => (r.at i).bind fun d => exIsD T d cs
  | .exAt i f, r => (r.at i).bind fun d => exAtD T d f
  | .call j es ds fl, r => (evEs T G es r).bind fun xs => (G j (xs ++ ds)).bind fun d => if fl && !flat d then .no else .ok d
  | .callk j es e, r => (evEs T G es r).bind fun xs => (evE T G e r).bind fun y => G j (xs ++ [y])
  | .comp own e t it c, r => (evI T G it r).bind fun ds => (compD (fun d => (asgT t d (wipeE r own)).bind fun r1 => (evC T G c r1).bind fun k => if k = true then (evE T G e r1).bind fun x => .ok (some x) else .ok none) ds).bind fun ys =>
      if ds.length ≤ 1000000 then .ok (.lst ys) else .no
def evEs (T : List (Str × D)) (G : Ga) : Es → En → R (List D)
  | .nil, _ => .ok []
  | .cons e es, r => (evE T G e r).bind fun x => (evEs T G es r).bind fun xs => .ok (x :: xs)
def evAnd (T : List (Str × D)) (G : Ga) : Es → En → R D
  | .nil, _ => .no
  | .cons e .nil, r => (evE T G e r).bind fun x => (toB x).bind fun k => .ok (.bl k)
  | .cons e es, r => (evE T G e r).bind fun x => (toB x).bind fun k => if k = true then evAnd T G es r else .ok (.bl false)
def evOr (T : List (Str × D)) (G : Ga) : Es → En → R D
  | .nil, _ => .no
  | .cons e .nil, r => (evE T G e r).bind fun x => (toB x).bind fun k => .ok (.bl k)
  | .cons e es, r => (evE T G e r).bind fun x => (toB x).bind fun k => if k = true then .ok (.bl true) else evOr T G es r
/-- a part of a slice -/
def evO (T : List (Str × D)) (G : Ga) : IO → En → R (Option Int)
  | .none, _ => .ok none
  | .some e, r => (evE T G e r).bind fun x => (intD x).bind fun i => .ok (some i)
/-- a comprehension's test -/
def evC (T : List (Str × D)) (G : Ga) : IO → En → R Bool
  | .none, _ => .ok true
  | .some e, r => (evE T G e r).bind fun x => toB x
/-- what is walked -/
def evI (T : List (Str × D)) (G : Ga) : II → En → R (List D)
  | .ex e, r => (evE T G e r).bind itemsD
  | .rg1 a, r => (evE T G a r).bind fun x => (intD x).bind fun n => if rngOk 0 n then .ok ((rangeI 0 n.toNat).map .int) else .no
  | .rg2 a b, r => (evE T G a r).bind fun x => (evE T G b r).bind fun y => (intD x).bind fun i => (intD y).bind fun j => if rngOk i j then .ok ((rangeI i (j - i).toNat).map .int) else .no
  | .rg3 a b c, r => (evE T G a r).bind fun x => (evE T G b r).bind fun y => (evE T G c r).bind fun z => (intD x).bind fun i => (intD y).bind fun j => (intD z).bind fun k =>
      if k = -1 ∧ rngOk i j = true then .ok ((List.range (i - j).toNat).map fun m => .int (i + (m : Nat) * (-1))) else .no
  | .enum e, r => (evE T G e r).bind fun x => (listD x).bind fun ds => .ok (enumD 0 ds)
  | .zip a b, r => (evE T G a r).bind fun x => (evE T G b r).bind fun y => (listD x).bind fun ds => (listD y).bind fun es => .ok (zipD ds es)
end

inductive Fl where
  | nx (r : En) | rt (d : D) | bk (r : En) | ct (r : En)
mutual
inductive IS where
  | asg (t : IT) (e : IE)
  | par (i j : Nat) (a b : IE)
  | aug (i : Nat) (o : Operator) (e : IE)
  | sets (x : Nat) (i e : IE)
  | augs (x : Nat) (i : IE) (o : Operator) (e : IE)
  | app (x : Nat) (e : IE)
  | ext (x : Nat) (e : IE)
  | ins (x : Nat) (i e : IE)
  | clr (x : Nat)
  | rev (x : Nat)
  | pop (x : Nat)
  | popAt (x : Nat) (i : IE)
  | popSub (y x : Nat) (i : IE)
  | setsl (x : Nat) (lo hi e : IE)
  | popk (y x : Nat) (k : IE)
  | expr (e : IE)
  | ret (e : IE)
  | retN
  | ife (c : IE) (a b : Ss)
  | whl (o : List Nat) (c : IE) (b : Ss)
  | forr (o : List Nat) (t : IT) (it : II) (b : Ss)
  | forq (o : List Nat) (t : IT) (it : II) (b : Ss)
  | brk | cont | pass
  | never
  | rais (c : Str) (f : Option Str) (e : IE)
  | tryx (b : Ss) (c : Str) (i : Option Nat) (h : Ss)
inductive Ss where
  | nil | cons (s : IS) (ss : Ss)
end
def forD (f : En → R Fl) (t : IT) : List D → En → R Fl
  | [], r => .ok (.nx r)
  | d :: ds, r => (asgT t d r).bind fun r1 => (f r1).bind fun
    | .nx r2 => forD f t ds r2
    | .ct r2 => forD f t ds r2
    | .bk r2 => .ok (.nx r2)
    | .rt x => .ok (.rt x)
/-- at most n turns; none: it goes on -/
def whileN (c : En → R Bool) (f : En → R Fl) : Nat → En → Option (R Fl)
  | 0, _ => none
  | n + 1, r => match c r with
    | .ok true => (match f r with
      | .ok (.nx r2) => whileN c f n r2
      | .ok (.ct r2) => whileN c f n r2
      | .ok (.bk r2) => some (.ok (.nx r2))
      | .ok (.rt x) => some (.ok (.rt x))
      | .ex e => some (.ex e)
      | .no => some .no)
    | .ok false => some (.ok (.nx r))
    | .ex e => some (.ex e)
    | .no => some .no
open Classical in
noncomputable def whileR (c : En → R Bool) (f : En → R Fl) (r : En) : R Fl :=
  if h : ∃ n x, whileN c f n r = some x then Classical.choose (Classical.choose_spec h) else .no
theorem whileN_mono (c : En → R Bool) (f : En → R Fl) : ∀ (n : Nat) (r : En) (x : R Fl), whileN c f n r = some x → ∀ m, n ≤ m → whileN c f m r = some x
  | 0, _, _, h, _, _ => nomatch h
  | n + 1, r, x, h, m, hm => by
    obtain ⟨m, rfl⟩ : ∃ k, m = k + 1 := ⟨m - 1, by omega⟩
    unfold whileN at h ⊢
    split at h
    · split at h
      · exact whileN_mono c f n _ x h m (by omega)
      · exact whileN_mono c f n _ x h m (by omega)
      all_goals exact h
    all_goals exact h
theorem whileR_of {c : En → R Bool} {f : En → R Fl} {n : Nat} {r : En} {x : R Fl} (h : whileN c f n r = some x) : whileR c f r = x := by
  have hh : ∃ n x, whileN c f n r = some x := ⟨n, x, h⟩
  unfold whileR
  rw [dif_pos hh]
  have e := Classical.choose_spec (Classical.choose_spec hh)
  have a := whileN_mono c f _ r _ e (max n (Classical.choose hh)) (Nat.le_max_right _ _)
  have b := whileN_mono c f _ r _ h (max n (Classical.choose hh)) (Nat.le_max_left _ _)
  rw [a] at b
  exact Option.some.inj b
theorem whileR_back {c : En → R Bool} {f : En → R Fl} {r : En} (h : whileR c f r ≠ .no) : ∃ n, whileN c f n r = some (whileR c f r) := by
  by_cases hh : ∃ n x, whileN c f n r = some x
  · obtain ⟨n, x, e⟩ := hh
    exact ⟨n, by rw [whileR_of e]; exact e⟩
  · exact absurd (by unfold whileR; rw [dif_neg hh]) h
/-- one turn -/
theorem whileR_step (c : En → R Bool) (f : En → R Fl) (r : En) : whileR c f r = (c r).bind fun k => if k = true then (f r).bind fun
    | .nx r2 => whileR c f r2
    | .ct r2 => whileR c f r2
    | .bk r2 => .ok (.nx r2)
    | .rt x => .ok (.rt x) else .ok (.nx r) := by
  have go : ∀ r2, (∀ n, whileN c f (n + 1) r = whileN c f n r2) → whileR c f r = whileR c f r2 := fun r2 e => by
    by_cases hh : ∃ n x, whileN c f n r2 = some x
    · obtain ⟨n, x, q⟩ := hh
      rw [whileR_of q, whileR_of (n := n + 1) ((e n).trans q)]
    · have h2 : ¬ ∃ n x, whileN c f n r = some x := fun ⟨n, x, q⟩ => by
        cases n with
        | zero => cases q
        | succ n => exact hh ⟨n, x, (e n).symm.trans q⟩
      unfold whileR
      rw [dif_neg hh, dif_neg h2]
  cases hc : c r with
  | no => exact whileR_of (n := 1) (by unfold whileN; rw [hc]; rfl)
  | ex e => exact whileR_of (n := 1) (by unfold whileN; rw [hc]; rfl)
  | ok k =>
    cases k with
    | false => exact whileR_of (n := 1) (by unfold whileN; rw [hc]; rfl)
    | true =>
      have tr : ∀ x : R Fl, (R.bind (R.ok true) fun k => if k = true then x else R.ok (Fl.nx r)) = x := fun _ => rfl
      rw [tr]
      cases hf : f r with
      | no => exact whileR_of (n := 1) (by unfold whileN; rw [hc]; simp only [hf]; rfl)
      | ex e => exact whileR_of (n := 1) (by unfold whileN; rw [hc]; simp only [hf]; rfl)
      | ok fl =>
        cases fl with
        | nx r2 => exact go r2 fun n => by rw [whileN, hc]; simp only [hf]
        | ct r2 => exact go r2 fun n => by rw [whileN, hc]; simp only [hf]
        | bk r2 => exact whileR_of (n := 1) (by unfold whileN; rw [hc]; simp only [hf]; rfl)
        | rt x => exact whileR_of (n := 1) (by unfold whileN; rw [hc]; simp only [hf]; rfl)

open Classical in
/-- what holds whatever the address -/
noncomputable def allA {α : Type} (f : Int → Int → R α) : R α := if ∀ a b, f a b = f 0 0 then f 0 0 else .no
def raisD (c : Str) (f : Option Str) (v : D) : R Fl := match f with
  | none => .ex (.ex c [])
  | some g => if flat v then .ex (.ex c [.str g, v]) else .no
/-- no exception out of a clause -/
def noexF (g : Fl → Fl) : R Fl → R Fl
  | .ok fl => .ok (g fl)
  | _ => .no
/-- the clause's name goes -/
def goneF (i : Nat) : Fl → Fl
  | .nx r => .nx (r.set i none)
  | .bk r => .bk (r.set i none)
  | .ct r => .ct (r.set i none)
  | .rt d => .rt d
/-- x[i] = v -/
def setD : D → D → D → R D
  | .lst xs, .int i, v => (match ixN xs.length i with | some j => .ok (.lst (xs.set j v)) | none => .no)
  | .dK ks vs, d, v => (match kyOf d with | some k => if ks.length < sizeLine then (if memK ks k = true then .ok (.dK ks (repK ks vs k v)) else .ok (.dK (ks ++ [k]) (vs ++ [v]))) else .no | none => .no)
  | .dT ks vs, .tup ds, v => (match kysOf ds with | some k => if ks.length < sizeLine then (if memK ks k = true then .ok (.dT ks (repK ks vs k v)) else .ok (.dT (ks ++ [k]) (vs ++ [v]))) else .no | none => .no)
  | _, _, _ => .no
/-- x[i:j] = v -/
def setslD (xs : List D) (i j : Int) : D → R D
  | .lst ys => if 0 ≤ i ∧ i ≤ j ∧ j ≤ xs.length ∧ xs.length + ys.length ≤ sizeLine then .ok (.lst (xs.take i.toNat ++ ys ++ xs.drop j.toNat)) else .no
  | _ => .no
def appD : D → D → R D
  | .lst xs, v => if xs.length < sizeLine then .ok (.lst (xs ++ [v])) else .no
  | _, _ => .no
def insD : D → D → D → R D
  | .lst xs, .int i, v => if xs.length < sizeLine ∧ 0 ≤ i ∧ i < 2 ^ 63 then .ok (.lst (xs.take i.toNat ++ [v] ++ xs.drop i.toNat)) else .no
  | _, _, _ => .no
def extD : D → D → R D
  | .lst xs, .lst ys => if xs.length + ys.length ≤ sizeLine then .ok (.lst (xs ++ ys)) else .no
  | _, _ => .no
def clrD : D → R D
  | .lst _ => .ok (.lst [])
  | _ => .no
def revD : D → R D
  | .lst xs => .ok (.lst xs.reverse)
  | _ => .no
/-- the last one, and what is left -/
def popD : D → R (D × D)
  | .lst xs => (match xs.getLast? with | some y => .ok (y, .lst xs.dropLast) | none => .no)
  | _ => .no
def popAtD : D → D → R (D × D)
  | .lst xs, .int i => if -(2 ^ 63) ≤ i ∧ i < 2 ^ 63 then (match ixN xs.length i with | some k => (match xs[k]? with | some y => .ok (y, .lst (xs.eraseIdx k)) | none => .no) | none => .no) else .no
  | _, _ => .no
/-- x.pop(k), x a dict -/
def popkD : D → D → R (D × D)
  | .dK ks vs, d => (match kyOf d with | some k => (match lookK ks vs k with | some v => .ok (v, .dK (dropKK ks k) (dropKD ks vs k)) | none => .no) | none => .no)
  | _, _ => .no
mutual
noncomputable def evS (T : List (Str × D)) (G : Ga) : IS → En → R Fl
  | .asg t e, r => (evE T G e r).bind fun x => (asgT t x r).bind fun r1 => .ok (.nx r1)
  | .par i j a b, r => (evE T G a r).bind fun x => (evE T G b r).bind fun y => .ok (.nx ((r.set i (some x)).set j (some y)))
  | .aug i o e, r => (r.at i).bind fun x => (evE T G e r).bind fun y => (match x, y with
      | .int _, .int _ => binD o x y
      | _, _ => .no).bind fun z => .ok (.nx (r.set i (some z)))
  | .sets x i e, r => (evE T G e r).bind fun v => (r.at x).bind fun l => (evE T G i r).bind fun k => (setD l k v).bind fun l2 => .ok (.nx (r.set x (some l2)))
  | .augs x i o e, r => (r.at x).bind fun l0 => (listD l0).bind fun xs => (evE T G i r).bind fun k => (subD (.lst xs) k).bind fun u => (evE T G e r).bind fun v => (match u, v with
      | .int _, .int _ => binD o u v
      | _, _ => .no).bind fun z => (setD (.lst xs) k z).bind fun l2 => .ok (.nx (r.set x (some l2)))
  | .app x e, r => (r.at x).bind fun l => (listD l).bind fun xs => (evE T G e r).bind fun v => (appD (.lst xs) v).bind fun l2 => .ok (.nx (r.set x (some l2)))
  | .ext x e, r => (r.at x).bind fun l => (evE T G e r).bind fun v => (extD l v).bind fun l2 => .ok (.nx (r.set x (some l2)))
  | .ins x i e, r => (r.at x).bind fun l0 => (listD l0).bind fun xs => (evE T G i r).bind fun k => (evE T G e r).bind fun v => (insD (.lst xs) k v).bind fun l2 => .ok (.nx (r.set x (some l2)))
  | .clr x, r => (r.at x).bind fun l => (clrD l).bind fun l2 => .ok (.nx (r.set x (some l2)))
  | .rev x, r => (r.at x).bind fun l => (revD l).bind fun l2 => .ok (.nx (r.set x (some l2)))
  | .pop x, r => (r.at x).bind fun l => (popD l).bind fun p => .ok (.nx (r.set x (some p.2)))
  | .popAt x i, r => (r.at x).bind fun l => (listD l).bind fun xs => (evE T G i r).bind fun k => (popAtD (.lst xs) k).bind fun p => .ok (.nx (r.set x (some p.2)))
  | .popSub y x i, r => (r.at x).bind fun l => (popD l).bind fun p => (evE T G i r).bind fun k => (subD p.1 k).bind fun u => .ok (.nx ((r.set x (some p.2)).set y (some u)))
  | .setsl x lo hi e, r => (evE T G e r).bind fun v => (r.at x).bind fun l => (listD l).bind fun xs => (evE T G lo r).bind fun a => (intD a).bind fun i => (evE T G hi r).bind fun b => (intD b).bind fun j => (setslD xs i j v).bind fun l2 => .ok (.nx (r.set x (some l2)))
  | .popk y x k, r => (r.at x).bind fun l => (dctD l).bind fun l => (evE T G k r).bind fun d => (popkD l d).bind fun p => .ok (.nx ((r.set x (some p.2)).set y (some p.1)))
  | .expr e, r => (evE T G e r).bind fun _ => .ok (.nx r)
  | .ret e, r => (evE T G e r).bind fun x => .ok (.rt x)
  | .retN, _ => .ok (.rt .non)
  | .ife c a b, r => (evE T G c r).bind fun x => (toB x).bind fun k => if k = true then evSs T G a r else evSs T G b r
  | .whl _ c b, r => whileR (fun r1 => (evE T G c r1).bind toB) (fun r1 => evSs T G b r1) r
  | .forr _ t it b, r => (evI T G it r).bind fun ds => forD (fun r1 => evSs T G b r1) t ds r
  | .forq _ t it b, r => (evI T G it r).bind fun ds => forD (fun r1 => evSs T G b r1) t ds r
  | .brk, r => .ok (.bk r)
  | .cont, r => .ok (.ct r)
  | .pass, r => .ok (.nx r)
  | .never, _ => .no
  | .rais c f e, r => (evE T G e r).bind fun v => raisD c f v
  | .tryx b c i h, r => (match evSs T G b r with
    | .ex x => if mtc c x = true then (match i with
      | some i => allA fun a b => noexF (goneF i) (evSs (T ++ [(("" : Str), exV a b x)]) G h (r.set i (some (exV a b x))))
      | none => noexF id (evSs T G h r)) else .ex x
    | y => y)
noncomputable def evSs (T : List (Str × D)) (G : Ga) : Ss → En → R Fl
  | .nil, r => .ok (.nx r)
  | .cons s ss, r => (evS T G s r).bind fun
    | .nx r1 => evSs T G ss r1
    | .rt x => .ok (.rt x)
    | .bk r1 => .ok (.bk r1)
    | .ct r1 => .ok (.ct r1)
end

structure DI where
  nm : Str
  ns : List Str
  ps : Nat
  dfl : List D
  fr : Bool
  body : Ss
  kw : Bool := false
  hot : Bool := false
def startE (n : Nat) (ds : List D) : En := ds.map some ++ List.replicate (n - ds.length) none
noncomputable def runD (T : List (Str × D)) (G : Ga) (d : DI) (ds : List D) : R D :=
  if ds.length = d.ps then (evSs T G d.body (startE d.ns.length ds)).bind fun
    | .nx _ => .ok .non
    | .rt x => .ok x
    | _ => .no
  else .no
noncomputable def GA (T : List (Str × D)) (fs : List DI) : Nat → Ga
  | 0, _, _ => .no
  | n + 1, j, ds => match fs[j]? with
    | some d => runD T (GA T fs n) d ds
    | none => .no
end PL

namespace PL
open L2 PyProof.Rows PySem.Spec PySem

def WE (X : Cx) (a : Expr) : TE := fun σ H Q => ∀ (pins : List (Addr × Obj)) (s : Shared), Inv X pins σ H s → wpAny (model X.prog X.w) X.A (eval a X.env) (EP X pins σ Q) X.xe s
def WT (X : Cx) (a : Expr) : TT := fun σ H Q => ∀ (pins : List (Addr × Obj)) (s : Shared), Inv X pins σ H s → wpAny (model X.prog X.w) X.A (isTrue a X.env (eval a X.env)) (TP X pins σ Q) X.xe s
def WW (X : Cx) (a : Expr) : TT := fun σ H Q => ∀ (whole : Sem Value) (pins : List (Addr × Obj)) (s : Shared), Inv X pins σ H s → wpAny (model X.prog X.w) X.A (isTrue a X.env whole) (TP X pins σ Q) X.xe s
def WA (X : Cx) (es : List Expr) : TA := fun σ H Q => ∀ (pos : Pos) (pins : List (Addr × Obj)) (s : Shared), Inv X pins σ H s → wpAny (model X.prog X.w) X.A (spliced (backTo pos (starEach es X.env))) (AP X pins σ Q) X.xe s
def WS (X : Cx) (st : Stmt) : TS := fun D σ H => ∀ (pins : List (Addr × Obj)) (s : Shared), Inv X pins σ H s → wpAny (model X.prog X.w) X.A (exec st X.env) (SP X pins D) X.xe s
def WSs (X : Cx) (sts : List Stmt) : TS := fun D σ H => ∀ (pins : List (Addr × Obj)) (s : Shared), Inv X pins σ H s → wpAny (model X.prog X.w) X.A (execs sts X.env) (SP X pins D) X.xe s
def WG (X : Cx) (tg : Expr) : TG := fun v σ H Q => ∀ (pins : List (Addr × Obj)) (s : Shared) (u : Value), Inv X pins σ H s → RelV v u → wpAny (model X.prog X.w) X.A (assign tg X.env u) (fun _ s' => ∃ σ' H', Inv X pins σ' H' s' ∧ Q σ' H') X.xe s
def WGs (X : Cx) (ts : List Expr) : TGs := fun vs σ H Q => ∀ (pins : List (Addr × Obj)) (s : Shared) (us : List Value), Inv X pins σ H s → Vals vs us → wpAny (model X.prog X.w) X.A (assignInOrder ((assignEach ts X.env).map (·.2)) us) (fun _ s' => ∃ σ' H', Inv X pins σ' H' s' ∧ Q σ' H') X.xe s
def WI (X : Cx) (tg iter : Expr) : TI := fun σ H R => ∀ (pins : List (Addr × Obj)) (s : Shared), Inv X pins σ H s → wpAny (model X.prog X.w) X.A (eval iter X.env) (fun v s1 => wpAny (model X.prog X.w) X.A (pyIter v) (PIE X pins σ tg R) X.xe s1) X.xe s
def WTs (X : Cx) (ifs : List Expr) : TT := fun σ H Q => ∀ (pins : List (Addr × Obj)) (s : Shared), Inv X pins σ H s → wpAny (model X.prog X.w) X.A (forIn ifs true fun c r => if r = true then do let ok ← isTrue c X.env (eval c X.env); pure (ForInStep.yield ok) else pure (ForInStep.yield r)) (TP X pins σ Q) X.xe s
section
variable {X : Cx} {a : Expr} {es : List Expr} {st : Stmt} {sts : List Stmt} {σ : L2.St} {H : Hp}
theorem pe_we : PE X a (WE X a) := ⟨fun pins s _ _ _ I h => h pins s I⟩
theorem pt_wt : PT X a (WT X a) := ⟨fun pins s _ _ _ I h => h pins s I⟩
theorem pw_ww : PW X a (WW X a) := ⟨fun wh pins s _ _ _ I h => h wh pins s I⟩
theorem pa_wa : PA X es (WA X es) := ⟨fun pos pins s _ _ _ I h => h pos pins s I⟩
theorem ps_ws : PS X st (WS X st) := ⟨fun pins s _ _ _ I h => h pins s I⟩
theorem pss_wss : PSs X sts (WSs X sts) := ⟨fun pins s _ _ _ I h => h pins s I⟩
theorem pg_wg : PG X a (WG X a) := ⟨fun pins s _ _ _ u _ I r h => h pins s u I r⟩
theorem pgs_wgs : PGs X es (WGs X es) := ⟨fun pins s _ _ _ us _ I r h => h pins s us I r⟩
theorem pi_wi {tg : Expr} : PI X tg a (WI X tg a) := ⟨fun pins s _ _ _ I h => h pins s I⟩
theorem pts_wts : PTs X es (WTs X es) := ⟨fun pins s _ _ _ I h => h pins s I⟩
theorem PE.we {t : TE} {Q : VK} (h : PE X a t) (q : t σ H Q) : WE X a σ H Q := fun pins s I => h.run pins s σ H Q I q
theorem PT.wt {t : TT} {Q : Bool → Hp → Prop} (h : PT X a t) (q : t σ H Q) : WT X a σ H Q := fun pins s I => h.run pins s σ H Q I q
theorem PW.ww {t : TT} {Q : Bool → Hp → Prop} (h : PW X a t) (q : t σ H Q) : WW X a σ H Q := fun wh pins s I => h.run wh pins s σ H Q I q
theorem PA.wa {t : TA} {Q : List V → Hp → Prop} (h : PA X es t) (q : t σ H Q) : WA X es σ H Q := fun pos pins s I => h.run pos pins s σ H Q I q
theorem PS.ws {t : TS} {D : Ends} (h : PS X st t) (q : t D σ H) : WS X st D σ H := fun pins s I => h.run pins s σ H D I q
theorem PSs.wss {t : TS} {D : Ends} (h : PSs X sts t) (q : t D σ H) : WSs X sts D σ H := fun pins s I => h.run pins s σ H D I q
theorem PG.wg {t : TG} {v : V} {Q : L2.St → Hp → Prop} (h : PG X a t) (q : t v σ H Q) : WG X a v σ H Q := fun pins s u I r => h.run pins s σ H v u Q I r q
theorem PGs.wgs {t : TGs} {v : List V} {Q : L2.St → Hp → Prop} (h : PGs X es t) (q : t v σ H Q) : WGs X es v σ H Q := fun pins s u I r => h.run pins s σ H v u Q I r q
theorem PI.wi {tg : Expr} {t : TI} {R : It → Hp → Prop} (h : PI X tg a t) (q : t σ H R) : WI X tg a σ H R := fun pins s I => h.run pins s σ H R I q
theorem PTs.wts {t : TT} {Q : Bool → Hp → Prop} (h : PTs X es t) (q : t σ H Q) : WTs X es σ H Q := fun pins s I => h.run pins s σ H Q I q
end

def Sat {α : Type} (r : R α) (ok : α → Prop) (ex : D → Prop) : Prop := match r with
  | .ok a => ok a
  | .ex e => ex e
  | .no => False
theorem Sat.bind {α β : Type} {r : R α} {f : α → R β} {ok : β → Prop} {ex : D → Prop} (h : Sat (r.bind f) ok ex) : Sat r (fun a => Sat (f a) ok ex) ex := by
  cases r <;> exact h
theorem Sat.mono {α : Type} {r : R α} {ok ok' : α → Prop} {ex ex' : D → Prop} (h : Sat r ok ex) (h1 : ∀ a, r = .ok a → ok a → ok' a) (h2 : ∀ e, ex e → ex' e) : Sat r ok' ex' := by
  cases r with
  | ok a => exact h1 a rfl h
  | ex e => exact h2 e h
  | no => exact h

abbrev F0 : AS := fun _ => False
/-- a value: its own cell off Mt, what is in it off Mi -/
def RepT (K : PySem.W.Frag) (Mt Mi : AS) (H : Hp) : D → V → Prop
  | .lst ds, v => ∃ a vs, v = .ref a ∧ LR K Mt H a vs ∧ Reps K Mi H ds vs
  | .dK ks ds, v => ∃ a vs, v = .ref a ∧ (¬ Mt a ∧ Rd H a (.dK (ks.zip vs))) ∧ ks.length = ds.length ∧ Reps K Mi H ds vs
  | .dT ks ds, v => ∃ a vs, v = .ref a ∧ (¬ Mt a ∧ Rd H a (.dT (ks.zip vs))) ∧ ks.length = ds.length ∧ Reps K Mi H ds vs
  | d, v => Rep K Mi H d v
/-- .. its own cell new, and nothing in it leads there -/
def FrT (K : PySem.W.Frag) (Mi : AS) (H H' : Hp) : D → V → Prop
  | .lst ds, v => ∃ a vs, v = .ref a ∧ H a = none ∧ H' a = some (.lst vs) ∧ Reps K (fun b => Mi b ∨ b = a) H' ds vs
  | .dK ks ds, v => ∃ a vs, v = .ref a ∧ H a = none ∧ H' a = some (.dK (ks.zip vs)) ∧ ks.length = ds.length ∧ Reps K (fun b => Mi b ∨ b = a) H' ds vs
  | .dT ks ds, v => ∃ a vs, v = .ref a ∧ H a = none ∧ H' a = some (.dT (ks.zip vs)) ∧ ks.length = ds.length ∧ Reps K (fun b => Mi b ∨ b = a) H' ds vs
  | d, v => Rep K Mi H' d v
def Res (K : PySem.W.Frag) (fr : Bool) (Mt Mi : AS) (H H' : Hp) (d : D) (v : V) : Prop := if fr = true then FrT K Mi H H' d v else RepT K Mt Mi H' d v
/-- a thing that may be changed -/
def MK : HO → Prop
  | .lst _ | .dK _ | .dT _ => True
  | _ => False
/-- all of M is tracked -/
def Trk (M : AS) (H : Hp) : Prop := ∀ a, M a → ∃ o, H a = some o ∧ MK o
theorem Trk.same {M : AS} {H H' : Hp} (t : Trk M H) (s : Same H H') : Trk M H' := fun a h => let ⟨o, e, m⟩ := t a h; ⟨o, s _ _ e, m⟩
theorem Trk.off {M : AS} {H : Hp} {a : Addr} (t : Trk M H) (h : H a = none) : ¬ M a := fun z => by
  obtain ⟨o, e, _⟩ := t a z
  rw [h] at e; cases e
/-- all but M is kept -/
def Kp (M : AS) (H H' : Hp) : Prop := ∀ a o, ¬ M a → H a = some o → H' a = some o
theorem Kp.of {M : AS} {H H' : Hp} (s : Same H H') : Kp M H H' := fun a o _ e => s a o e
theorem Kp.trans {M : AS} {H H1 H2 : Hp} (a : Kp M H H1) (b : Kp M H1 H2) : Kp M H H2 := fun c o n e => b c o n (a c o n e)
theorem Kp.more {M M' : AS} {H H' : Hp} (h : ∀ a, M a → M' a) (k : Kp M H H') : Kp M' H H' := fun a o n e => k a o (fun z => n (h a z)) e
section
variable {K : PySem.W.Frag} {Mt Mi M Mt' Mi' : AS} {H H' H2 : Hp} {d : D} {v : V}
theorem FrT.repT (t : Trk Mt H) (h : FrT K Mi H H' d v) : RepT K Mt Mi H' d v := by
  cases d <;> first
    | exact h
    | (obtain ⟨a, vs, e, h1, h2, h3⟩ := h; exact ⟨a, vs, e, .inl ⟨t.off h1, .inl h2⟩, Reps.less (fun b hb => .inl hb) h3⟩)
    | (obtain ⟨a, vs, e, h1, h2, h4, h3⟩ := h; exact ⟨a, vs, e, ⟨t.off h1, .inl h2⟩, h4, Reps.less (fun b hb => .inl hb) h3⟩)
theorem Res.repT {fr : Bool} (t : Trk Mt H) (h : Res K fr Mt Mi H H' d v) : RepT K Mt Mi H' d v := by
  unfold Res at h
  split at h
  · exact FrT.repT t h
  · exact h
theorem Res.of_fr {fr : Bool} (t : Trk Mt H) (h : FrT K Mi H H' d v) : Res K fr Mt Mi H H' d v := by
  unfold Res
  split
  · exact h
  · exact FrT.repT t h
theorem RepT.rep (h : RepT K M M H d v) : Rep K M H d v := by cases d <;> exact h
theorem RepT.of (h : Rep K M H d v) : RepT K M M H d v := by cases d <;> exact h
theorem RepT.less (h1 : ∀ a, Mt' a → Mt a) (h2 : ∀ a, Mi' a → Mi a) (h : RepT K Mt Mi H d v) : RepT K Mt' Mi' H d v := by
  cases d <;> first
    | exact Rep.less h2 h
    | (obtain ⟨a, vs, e, h3, h4⟩ := h; exact ⟨a, vs, e, h3.gr (Gr.less h1), Reps.less h2 h4⟩)
    | (obtain ⟨a, vs, e, ⟨n, h3⟩, h5, h4⟩ := h; exact ⟨a, vs, e, ⟨fun z => n (h1 _ z), h3⟩, h5, Reps.less h2 h4⟩)
theorem RepT.same (s : Same H H') (h : RepT K Mt Mi H d v) : RepT K Mt Mi H' d v := by
  cases d <;> first
    | exact Rep.same s h
    | (obtain ⟨a, vs, e, h3, h4⟩ := h; exact ⟨a, vs, e, h3.gr (Gr.same s), Reps.same s h4⟩)
    | (obtain ⟨a, vs, e, ⟨n, h3⟩, h5, h4⟩ := h; exact ⟨a, vs, e, ⟨n, Same.rd s h3⟩, h5, Reps.same s h4⟩)
theorem RepT.flat (f : flat d = true) (h : RepT K Mt Mi H d v) : Rep K M H d v := by
  cases d <;> first
    | exact Rep.flat_any (M := Mi) _ _ f h
    | cases f
theorem FrT.flat_any (f : PL.flat d = true) (h : FrT K Mi H H' d v) : FrT K M H H' d v := by
  cases d <;> first
    | exact Rep.flat_any (M := Mi) _ _ f h
    | cases f
theorem RepT.int {i : Int} (h : RepT K Mt Mi H (.int i) v) : v = .int i := h
theorem RepT.bl {i : Bool} (h : RepT K Mt Mi H (.bl i) v) : v = .bl i := h
end
theorem same_new {H : Hp} {p : Addr} {o : HO} (h : H p = none) : Same H (upd H p o) := fun b x e => by
  rw [upd_ne (ne_of_none e h)]
  exact e
/-- a new list of things that were there -/
theorem FrT.lst {K : PySem.W.Frag} {Mi : AS} {H H1 : Hp} {p : Addr} {ds : List D} {vs : List V} (s : Same H H1) (hp : H1 p = none) (r : Reps K Mi H1 ds vs) : FrT K Mi H (upd H1 p (.lst vs)) (.lst ds) (.ref p) :=
  ⟨p, vs, rfl, s.free hp, upd_same, Reps.same (same_new hp) (Reps.gr (Gr.more fun a h => h.imp id fun e => by rw [e]; exact hp) _ _ r)⟩
theorem FrT.tup {K : PySem.W.Frag} {Mi : AS} {H H1 : Hp} {p : Addr} {ds : List D} {vs : List V} (hp : H1 p = none) (r : Reps K Mi H1 ds vs) : FrT K Mi H (upd H1 p (.tup vs)) (.tup ds) (.ref p) :=
  ⟨p, vs, rfl, upd_same, Reps.same (same_new hp) r⟩

section
variable {K : PySem.W.Frag} {M : AS} {H : Hp}
mutual
theorem Rep.dp : ∀ (d : D) (v : V) (n : Nat), plainD n d = true → Rep K M H d v → Dp K H v (toPy d)
  | .non, v, _, _, h => by have h : v = .non := h; subst h; exact .non
  | .bl b, v, _, _, h => by have h : v = .bl b := h; subst h; exact .bl b
  | .int b, v, _, _, h => by have h : v = .int b := h; subst h; exact .int b
  | .str b, v, _, _, h => by have h : v = .str b := h; subst h; exact .str b
  | .tup ds, v, n + 1, p, ⟨a, vs, e, h, r⟩ => by subst e; exact .tup h.sq (Reps.dp ds vs n p r)
  | .lst ds, v, n + 1, p, ⟨a, vs, e, h, r⟩ => by subst e; exact .lst h.sq (Reps.dp ds vs n p r)
  | .tup _, _, 0, p, _ => nomatch p
  | .lst _, _, 0, p, _ => nomatch p
  | .dK _ _, _, n + 1, p, _ => nomatch p
  | .dT _ _, _, n + 1, p, _ => nomatch p
  | .ex _ _, _, n + 1, p, _ => nomatch p
  | .dK _ _, _, 0, p, _ => nomatch p
  | .dT _ _, _, 0, p, _ => nomatch p
  | .ex _ _, _, 0, p, _ => nomatch p
theorem Reps.dp : ∀ (ds : List D) (vs : List V) (n : Nat), ds.all (plainD n) = true → Reps K M H ds vs → DpAll K H vs (toPys ds)
  | [], _, _, _, h => by have h : _ = [] := h; subst h; exact .nil
  | d :: ds, _, n, p, ⟨v, r, e, h1, h2⟩ => by
    subst e
    rw [List.all_cons, Bool.and_eq_true] at p
    exact .cons (Rep.dp d v n p.1 h1) (Reps.dp ds r n p.2 h2)
end
end
mutual
theorem deq_py : ∀ (d e : D) (n m : Nat), plainD n d = true → plainD m e = true → PyData.eqv (toPy d) (toPy e) = deq d e
  | .tup ds, .tup es, n + 1, m + 1, p, q => deqs_py ds es n m p q
  | .lst ds, .lst es, n + 1, m + 1, p, q => deqs_py ds es n m p q
  | .tup _, _, 0, _, p, _ => nomatch p
  | .lst _, _, 0, _, p, _ => nomatch p
  | _, .tup _, _, 0, _, p => nomatch p
  | _, .lst _, _, 0, _, p => nomatch p
  | .dK _ _, _, n, _, p, _ => by cases n <;> cases p
  | .dT _ _, _, n, _, p, _ => by cases n <;> cases p
  | .ex _ _, _, n, _, p, _ => by cases n <;> cases p
  | _, .dK _ _, _, n, _, p => by cases n <;> cases p
  | _, .dT _ _, _, n, _, p => by cases n <;> cases p
  | _, .ex _ _, _, n, _, p => by cases n <;> cases p
  | .non, .non, _, _, _, _ => rfl
  | .non, .bl _, _, _, _, _ => rfl
  | .non, .int _, _, _, _, _ => rfl
  | .non, .str _, _, _, _, _ => rfl
  | .non, .tup _, _, _, _, _ => rfl
  | .non, .lst _, _, _, _, _ => rfl
  | .bl _, .non, _, _, _, _ => rfl
  | .bl _, .bl _, _, _, _, _ => rfl
  | .bl _, .int _, _, _, _, _ => rfl
  | .bl _, .str _, _, _, _, _ => rfl
  | .bl _, .tup _, _, _, _, _ => rfl
  | .bl _, .lst _, _, _, _, _ => rfl
  | .int _, .non, _, _, _, _ => rfl
  | .int _, .bl _, _, _, _, _ => rfl
  | .int _, .int _, _, _, _, _ => rfl
  | .int _, .str _, _, _, _, _ => rfl
  | .int _, .tup _, _, _, _, _ => rfl
  | .int _, .lst _, _, _, _, _ => rfl
  | .str _, .non, _, _, _, _ => rfl
  | .str _, .bl _, _, _, _, _ => rfl
  | .str _, .int _, _, _, _, _ => rfl
  | .str _, .str _, _, _, _, _ => rfl
  | .str _, .tup _, _, _, _, _ => rfl
  | .str _, .lst _, _, _, _, _ => rfl
  | .tup _, .non, _, _, _, _ => rfl
  | .tup _, .bl _, _, _, _, _ => rfl
  | .tup _, .int _, _, _, _, _ => rfl
  | .tup _, .str _, _, _, _, _ => rfl
  | .tup _, .lst _, _, _, _, _ => rfl
  | .lst _, .non, _, _, _, _ => rfl
  | .lst _, .bl _, _, _, _, _ => rfl
  | .lst _, .int _, _, _, _, _ => rfl
  | .lst _, .str _, _, _, _, _ => rfl
  | .lst _, .tup _, _, _, _, _ => rfl
theorem deqs_py : ∀ (ds es : List D) (n m : Nat), ds.all (plainD n) = true → es.all (plainD m) = true → PyData.eqvAll (toPys ds) (toPys es) = deqs ds es
  | [], [], _, _, _, _ => rfl
  | [], _ :: _, _, _, _, _ => rfl
  | _ :: _, [], _, _, _, _ => rfl
  | d :: ds, e :: es, n, m, p, q => by
    rw [List.all_cons, Bool.and_eq_true] at p q
    have h1 := deq_py d e n m p.1 q.1
    have h2 := deqs_py ds es n m p.2 q.2
    show (PyData.eqv (toPy d) (toPy e) && PyData.eqvAll (toPys ds) (toPys es)) = (deq d e && deqs ds es)
    rw [h1, h2]
end
end PL

namespace PL
open L2 PyProof.Rows PySem.Spec PySem

mutual
theorem plain_lay : ∀ (d : D) (n : Nat), plainD n d = true → (toPy d).canLay0 = true ∧ (toPy d).depth ≤ n
  | .non, n, _ => ⟨rfl, Nat.zero_le _⟩
  | .bl _, n, _ => ⟨rfl, Nat.zero_le _⟩
  | .int _, n, _ => ⟨rfl, Nat.zero_le _⟩
  | .str x, 0, p => nomatch p
  | .str x, n + 1, p => ⟨p, Nat.zero_le _⟩
  | .tup ds, 0, p => nomatch p
  | .lst ds, 0, p => nomatch p
  | .tup ds, n + 1, p => let ⟨a, b⟩ := plains_lay ds n p; ⟨a, Nat.succ_le_succ b⟩
  | .lst ds, n + 1, p => let ⟨a, b⟩ := plains_lay ds n p; ⟨a, Nat.succ_le_succ b⟩
  | .dK _ _, n, p => by cases n <;> cases p
  | .dT _ _, n, p => by cases n <;> cases p
  | .ex _ _, n, p => by cases n <;> cases p
theorem plains_lay : ∀ (ds : List D) (n : Nat), ds.all (plainD n) = true → PyData.canLayAll0 (toPys ds) = true ∧ PyData.depthAll (toPys ds) ≤ n
  | [], n, _ => ⟨rfl, Nat.zero_le _⟩
  | d :: ds, n, p => by
    rw [List.all_cons, Bool.and_eq_true] at p
    obtain ⟨a, b⟩ := plain_lay d n p.1
    obtain ⟨c, e⟩ := plains_lay ds n p.2
    refine ⟨?_, ?_⟩
    · show ((toPy d).canLay0 && PyData.canLayAll0 (toPys ds)) = true
      rw [a, c]; rfl
    · show max (toPy d).depth (PyData.depthAll (toPys ds)) ≤ n
      omega
end
theorem plain_lay0 (d : D) (n : Nat) (h : plainD n d = true) : (toPy d).canLay0 = true := (plain_lay d n h).1
section
variable {K : PySem.W.Frag} {M : AS} {H : Hp} {κ : Type} [DecidableEq κ]
theorem val_rep : ∀ {ks : List κ} {ds : List D} {us : List V} (k : κ), ks.length = ds.length → Reps K M H ds us → (∀ d, lookK ks ds k = some d → ∃ v, valV (ks.zip us) k = some v ∧ Rep K M H d v) ∧ (lookK ks ds k = none → valV (ks.zip us) k = none)
  | [], _, _, k, _, _ => ⟨(fun _ z => nomatch z), fun _ => rfl⟩
  | j :: ks, [], _, k, l, _ => nomatch l
  | j :: ks, d :: ds, _, k, l, ⟨v, r, e, h1, h2⟩ => by
    subst e
    obtain ⟨a, b⟩ := val_rep (ks := ks) (ds := ds) k (by simpa using l) h2
    have el : lookK (j :: ks) (d :: ds) k = if j = k then some d else lookK ks ds k := rfl
    rw [el, List.zip_cons_cons]
    by_cases q : j = k
    · rw [if_pos q, valV_pos (p := (j, v)) q]
      exact ⟨(fun x hx => by cases hx; exact ⟨v, rfl, h1⟩), fun z => nomatch z⟩
    · rw [if_neg q, valV_neg (p := (j, v)) q]
      exact ⟨a, b⟩
theorem mem_zip : ∀ {ks : List κ} {us : List V} (k : κ), ks.length = us.length → (valV (ks.zip us) k).isSome = memK ks k
  | [], _, _, _ => rfl
  | j :: ks, [], _, l => nomatch l
  | j :: ks, v :: us, k, l => by
    have ih := mem_zip (ks := ks) (us := us) k (by simpa using l)
    rw [List.zip_cons_cons]
    show _ = (decide (j = k) || memK ks k)
    by_cases q : j = k
    · rw [valV_pos (p := (j, v)) q, decide_eq_true q]; rfl
    · rw [valV_neg (p := (j, v)) q, decide_eq_false q, ih]; rfl
theorem any_zip : ∀ {ks : List κ} {us : List V} (k : κ), ks.length = us.length → ((ks.zip us).any fun kv => decide (kv.1 = k)) = memK ks k
  | [], _, _, _ => rfl
  | j :: ks, [], _, l => nomatch l
  | j :: ks, v :: us, k, l => by
    rw [List.zip_cons_cons, List.any_cons, any_zip (ks := ks) (us := us) k (by simpa using l)]; rfl
theorem repK_zip : ∀ {ks : List κ} {us : List V} (k : κ) (u : V), ks.length = us.length → ((ks.zip us).map fun kv => if kv.1 = k then (kv.1, u) else kv) = ks.zip (repK ks us k u)
  | [], _, _, _, _ => rfl
  | j :: ks, [], _, _, l => nomatch l
  | j :: ks, v :: us, k, u, l => by
    rw [List.zip_cons_cons, List.map_cons, repK_zip (ks := ks) (us := us) k u (by simpa using l)]
    show _ = (j, if j = k then u else v) :: ks.zip (repK ks us k u)
    dsimp only
    split <;> rfl
theorem putK_zip {ks : List κ} {us : List V} (k : κ) (u : V) (l : ks.length = us.length) : putK (ks.zip us) k u = if memK ks k = true then ks.zip (repK ks us k u) else (ks ++ [k]).zip (us ++ [u]) := by
  unfold putK
  rw [any_zip k l]
  split
  · exact repK_zip k u l
  · rw [List.zip_append l]; rfl
theorem repK_len {α : Type} : ∀ {ks : List κ} {us : List α} (k : κ) (u : α), (repK ks us k u).length = us.length
  | [], [], _, _ => rfl
  | [], _ :: _, _, _ => rfl
  | j :: ks, [], _, _ => rfl
  | j :: ks, v :: us, k, u => by
    show (repK ks us k u).length + 1 = us.length + 1
    rw [repK_len]
theorem repK_nil {α : Type} (us : List α) (k : κ) (u : α) : repK [] us k u = us := by cases us <;> rfl
theorem Reps.repK : ∀ {ks : List κ} {ds : List D} {us : List V} {k : κ} {d : D} {u : V}, Reps K M H ds us → Rep K M H d u → Reps K M H (PL.repK ks ds k d) (PL.repK ks us k u)
  | [], ds, us, k, d, u, h, _ => by
    rw [repK_nil, repK_nil]; exact h
  | j :: ks, [], _, _, _, _, h, _ => by
    have h : _ = [] := h
    subst h; rfl
  | j :: ks, e :: ds, _, k, d, u, ⟨v, r, ev, h1, h2⟩, hx => by
    subst ev
    refine ⟨_, _, rfl, ?_, Reps.repK h2 hx⟩
    split <;> assumption
theorem dropK_zip : ∀ {ks : List κ} {us : List V} (k : κ), ks.length = us.length → dropK (ks.zip us) k = (dropKK ks k).zip (dropKD ks us k)
  | [], _, _, _ => rfl
  | j :: ks, [], _, l => nomatch l
  | j :: ks, v :: us, k, l => by
    have ih := dropK_zip (ks := ks) (us := us) k (by simpa using l)
    unfold dropK dropKK at ih ⊢
    rw [List.zip_cons_cons]
    have e : dropKD (j :: ks) (v :: us) k = if j = k then dropKD ks us k else v :: dropKD ks us k := rfl
    by_cases q : j = k
    · rw [List.filter_cons_of_neg (by simp [q]), List.filter_cons_of_neg (by simp [q]), ih, e, if_pos q]
    · rw [List.filter_cons_of_pos (by simp [q]), List.filter_cons_of_pos (by simp [q]), ih, e, if_neg q]; rfl
theorem dropKK_len : ∀ {α : Type} {ks : List κ} {us : List α} (k : κ), ks.length = us.length → (dropKK ks k).length = (dropKD ks us k).length
  | _, [], [], _, _ => rfl
  | _, [], _ :: _, _, l => nomatch l
  | _, j :: ks, [], _, l => nomatch l
  | _, j :: ks, v :: us, k, l => by
    have ih := dropKK_len (ks := ks) (us := us) k (by simpa using l)
    have e : dropKD (j :: ks) (v :: us) k = if j = k then dropKD ks us k else v :: dropKD ks us k := rfl
    unfold dropKK at ih ⊢
    by_cases q : j = k
    · rw [List.filter_cons_of_neg (by simp [q]), e, if_pos q, ih]
    · rw [List.filter_cons_of_pos (by simp [q]), e, if_neg q, List.length_cons, List.length_cons, ih]
theorem Reps.dropKD : ∀ {ks : List κ} {ds : List D} {us : List V} {k : κ}, Reps K M H ds us → Reps K M H (PL.dropKD ks ds k) (PL.dropKD ks us k)
  | [], [], _, k, h => by
    have h : _ = [] := h
    subst h; rfl
  | [], e :: ds, _, k, ⟨v, r, ev, h1, h2⟩ => by
    subst ev
    exact ⟨v, r, rfl, h1, h2⟩
  | j :: ks, [], _, _, h => by
    have h : _ = [] := h
    subst h; rfl
  | j :: ks, e :: ds, _, k, ⟨v, r, ev, h1, h2⟩ => by
    subst ev
    have ih := Reps.dropKD (ks := ks) (k := k) h2
    have e1 : PL.dropKD (j :: ks) (e :: ds) k = if j = k then PL.dropKD ks ds k else e :: PL.dropKD ks ds k := rfl
    have e2 : PL.dropKD (j :: ks) (v :: r) k = if j = k then PL.dropKD ks r k else v :: PL.dropKD ks r k := rfl
    rw [e1, e2]
    split
    · exact ih
    · exact ⟨_, _, rfl, h1, ih⟩
end
theorem kyOf_v {K : PySem.W.Frag} {M : AS} {H : Hp} {d : D} {k : Key} {x : V} (h : kyOf d = some k) (r : Rep K M H d x) : x = kV k := by
  cases d <;> first | cases h | skip
  · exact r
  · exact r
theorem keyD_v {K : PySem.W.Frag} {M : AS} {H : Hp} (k : Key) : Rep K M H (keyD k) (kV k) := by cases k <;> rfl
theorem keyDs_v {K : PySem.W.Frag} {M : AS} {H : Hp} : ∀ ks : List Key, Reps K M H (ks.map keyD) (ks.map kV)
  | [] => rfl
  | k :: ks => ⟨_, _, rfl, keyD_v k, keyDs_v ks⟩
theorem kysOf_v {K : PySem.W.Frag} {M : AS} {H : Hp} : ∀ {ds : List D} {ks : List Key} {us : List V}, kysOf ds = some ks → Reps K M H ds us → us = ks.map kV
  | [], ks, us, h, r => by
    cases h
    exact r
  | d :: ds, ks, us, h, ⟨v, r, e, h1, h2⟩ => by
    have h : ((kyOf d).bind fun k => (kysOf ds).map (k :: ·)) = some ks := h
    cases q : kyOf d with
    | none => rw [q] at h; cases h
    | some k =>
      rw [q] at h
      have h : (kysOf ds).map (k :: ·) = some ks := h
      cases q2 : kysOf ds with
      | none => rw [q2] at h; cases h
      | some js =>
        rw [q2] at h
        cases h
        rw [e, kyOf_v q h1, kysOf_v q2 h2]; rfl

section
variable {X : Cx} {σ : L2.St} {H : Hp} {s : Shared} {pins : List (Addr × Obj)}
theorem Rd.inj {a : Addr} {k1 k2 : List (Key × V)} (h : Rd H a (.dK k1)) (g : Rd H a (.dK k2)) : k1 = k2 := by
  rcases h with h | ⟨u, h⟩ <;> rcases g with g | ⟨v, g⟩ <;> (rw [h] at g; cases g)
  · rfl
  · rfl
/-- the same value -/
theorem sameQ (I : Inv X pins σ H s) {M1 M2 : AS} : ∀ (n : Nat) (d e : D) (b : Bool) (x : V) (v : Value), RelV x v → eqQ n d e = some b → Rep X.K M1 H d x → Rep X.K M2 H e x → b = true
  | 0, _, _, _, _, _, _, h, _, _ => nomatch h
  | n + 1, d, e, b, x, v, rv, h, h1, h2 => by
    unfold eqQ at h
    split at h
    · rename_i hp
      cases h
      rw [Bool.and_eq_true] at hp
      obtain ⟨as, r1⟩ := Dp.reads I _ _ v (Rep.dp d x (n + 1) hp.1 h1) rv
      obtain ⟨bs, r2⟩ := Dp.reads I _ _ v (Rep.dp e x (n + 1) hp.2 h2) rv
      have e1 := SeqAt.Reads.unique _ _ _ _ _ (plain_lay0 d (n + 1) hp.1) r1 r2
      rw [← deq_py d e (n + 1) (n + 1) hp.1 hp.2, ← e1]
      exact SeqAt.eqv_refl _ (plain_lay0 d (n + 1) hp.1)
    · have ls : ∀ (xs ys : List D) (vs : List V) (us : List Value) (b : Bool), Vals vs us → eqQL (eqQ n) xs ys = some b → Reps X.K M1 H xs vs → Reps X.K M2 H ys vs → b = true := by
        intro xs
        induction xs with
        | nil =>
          intro ys vs us b rv h h1 h2
          cases ys with
          | nil => cases h; rfl
          | cons _ _ => cases h
        | cons x xs ih =>
          intro ys vs us b rv h h1 h2
          cases ys with
          | nil => cases h
          | cons y ys =>
            obtain ⟨w, r, ew, a1, a2⟩ := h1
            subst ew
            obtain ⟨w', r', ew', b1, b2⟩ := h2
            cases ew'
            cases rv with
            | cons rw rvs =>
              have h : ((eqQ n x y).bind fun b => (eqQL (eqQ n) xs ys).map fun c => b && c) = some b := h
              cases q : eqQ n x y with
              | none => rw [q] at h; cases h
              | some b1' =>
                rw [q] at h
                have h : ((eqQL (eqQ n) xs ys).map fun c => b1' && c) = some b := h
                cases q2 : eqQL (eqQ n) xs ys with
                | none => rw [q2] at h; cases h
                | some c =>
                  rw [q2] at h
                  cases h
                  rw [sameQ I n x y b1' w _ rw q a1 b1, ih ys r _ c rvs q2 a2 b2]; rfl
      split at h
      · obtain ⟨a, vs, ex, l1, r1⟩ := h1
        obtain ⟨a', vs', ex', l2, r2⟩ := h2
        rw [ex] at ex'
        cases ex'
        obtain rfl := I.list_inj l1.sq l2.sq
        obtain ⟨its, rv2, _⟩ := I.list l1.sq
        exact ls _ _ _ _ _ rv2 h r1 r2
      · obtain ⟨a, vs, ex, l1, r1⟩ := h1
        obtain ⟨a', vs', ex', l2, r2⟩ := h2
        rw [ex] at ex'
        cases ex'
        obtain rfl := I.tuple_inj l1.sq l2.sq
        obtain ⟨its, rv2, _⟩ := I.tuple l1.sq
        exact ls _ _ _ _ _ rv2 h r1 r2
      · rename_i ks ds js es _
        split at h
        · rename_i hc
          obtain ⟨a, vs, ex, ⟨_, d1⟩, l1, r1⟩ := h1
          obtain ⟨a', vs', ex', ⟨_, d2⟩, l2, r2⟩ := h2
          rw [ex] at ex'
          cases ex'
          have ez := Rd.inj d1 d2
          have k1 : (ks.zip vs).map (·.1) = ks := by rw [List.map_fst_zip]; rw [r1.len]; omega
          have k2 : (js.zip vs').map (·.1) = js := by rw [List.map_fst_zip]; rw [r2.len]; omega
          have v1 : (ks.zip vs).map (·.2) = vs := by rw [List.map_snd_zip]; rw [r1.len]; omega
          have v2 : (js.zip vs').map (·.2) = vs' := by rw [List.map_snd_zip]; rw [r2.len]; omega
          have ek : ks = js := by rw [← k1, ← k2, ez]
          have ev : vs = vs' := by rw [← v1, ← v2, ez]
          subst ek ev
          obtain ⟨_, _, kv, rel, dd⟩ := dk_rd I.hok d1
          have rvs : ∃ us, Vals vs us := by
            have : ∀ {l : List (Key × V)} {kv : List (Key × Value)}, KV l kv → ∃ us, Vals (l.map (·.2)) us := by
              intro l
              induction l with
              | nil => intro kv h; exact ⟨[], .nil⟩
              | cons p l ih =>
                intro kv h
                cases h with
                | cons h1 h2 =>
                  obtain ⟨us, hu⟩ := ih h2
                  exact ⟨_, .cons h1.2 hu⟩
            obtain ⟨us, hu⟩ := this rel
            rw [v1] at hu
            exact ⟨us, hu⟩
          obtain ⟨us, hu⟩ := rvs
          cases q : eqQD (eqQ n) ks es ks ds with
          | none => rw [q] at h; cases h
          | some c =>
            rw [q] at h
            cases h
            show (decide (ks.length = ks.length) && c) = true
            rw [decide_eq_true rfl, Bool.true_and]
            -- every key of ks finds its own in es
            have go : ∀ (pre : List Key) (pv : List V) (pe : List D), pre.length = pe.length → Reps X.K M2 H pe pv → ∀ (ks' : List Key) (ds' es' : List D) (vs' : List V) (us' : List Value) (c : Bool), (pre ++ ks').Nodup → ks'.length = ds'.length → Reps X.K M1 H ds' vs' → Reps X.K M2 H es' vs' → Vals vs' us' →
                eqQD (eqQ n) (pre ++ ks') (pe ++ es') ks' ds' = some c → c = true := by
              intro pre pv pe lp rp ks'
              induction ks' generalizing pre pv pe with
              | nil => intro ds' es' vs' us' c _ _ _ _ _ h; cases ds' <;> (cases h; rfl)
              | cons k ks' ih =>
                intro ds' es' vs' us' c nd ll a b rv h
                cases ds' with
                | nil => nomatch ll
                | cons d ds' =>
                  obtain ⟨w, r, ew, a1, a2⟩ := a
                  subst ew
                  cases es' with
                  | nil => exact absurd (show (w :: r) = [] from b) (by simp)
                  | cons e es' =>
                    obtain ⟨w', r', ew', b1, b2⟩ := b
                    cases ew'
                    cases rv with
                    | cons rw rvs =>
                      have lk : lookK (pre ++ k :: ks') (pe ++ e :: es') k = some e := by
                        clear ih h
                        induction pre generalizing pe pv with
                        | nil =>
                          cases pe with
                          | nil => exact if_pos rfl
                          | cons _ _ => nomatch lp
                        | cons p pre ihp =>
                          cases pe with
                          | nil => nomatch lp
                          | cons z pe =>
                            obtain ⟨_, _, _, _, rp2⟩ := rp
                            have np : p ≠ k := fun ep => by
                              have := (List.nodup_cons.mp nd).1
                              exact this (by rw [ep]; simp)
                            show (if p = k then some z else lookK (pre ++ k :: ks') (pe ++ e :: es') k) = _
                            rw [if_neg np]
                            exact ihp _ pe (by simpa using lp) rp2 (List.nodup_cons.mp nd).2
                      have h : ((match lookK (pre ++ k :: ks') (pe ++ e :: es') k with
                        | some w => eqQ n d w
                        | none => some false).bind fun b => (eqQD (eqQ n) (pre ++ k :: ks') (pe ++ e :: es') ks' ds').map fun c => b && c) = some c := h
                      rw [lk] at h
                      have h : ((eqQ n d e).bind fun b => (eqQD (eqQ n) (pre ++ k :: ks') (pe ++ e :: es') ks' ds').map fun c => b && c) = some c := h
                      cases q : eqQ n d e with
                      | none => rw [q] at h; cases h
                      | some b1' =>
                        rw [q] at h
                        have h : ((eqQD (eqQ n) (pre ++ k :: ks') (pe ++ e :: es') ks' ds').map fun c => b1' && c) = some c := h
                        cases q2 : eqQD (eqQ n) (pre ++ k :: ks') (pe ++ e :: es') ks' ds' with
                        | none => rw [q2] at h; cases h
                        | some c2 =>
                          rw [q2] at h
                          cases h
                          have e1 : pre ++ k :: ks' = (pre ++ [k]) ++ ks' := by simp
                          have e2 : pe ++ e :: es' = (pe ++ [e]) ++ es' := by simp
                          rw [e1, e2] at q2
                          rw [e1] at nd
                          rw [sameQ I n d e b1' w _ rw q a1 b1, ih (pre ++ [k]) (pv ++ [w]) (pe ++ [e]) (by simp [lp]) (Reps.app rp (Reps.one b1)) ds' es' r _ c2 nd (by simpa using ll) a2 b2 rvs q2]; rfl
            exact go [] [] [] rfl rfl ks ds es vs us c hc.1 hc.2.1 r1 r2 hu q
        · cases h
      · cases h
def eAt (f : D → D → Option Bool) (xs ys : List D) (j : Nat) : Bool := match xs[j]?, ys[j]? with
  | some x, some y => (f x y).getD true
  | _, _ => true
theorem eqQL_all {f : D → D → Option Bool} : ∀ {xs ys : List D} {b : Bool}, eqQL f xs ys = some b → xs.length = ys.length ∧ (∀ (j : Nat) (x y : D), xs[j]? = some x → ys[j]? = some y → ∃ c, f x y = some c) ∧ (List.range xs.length).all (eAt f xs ys) = b
  | [], [], b, h => by
    cases h
    exact ⟨rfl, (fun j x y a => by simp at a), rfl⟩
  | [], _ :: _, _, h => nomatch h
  | _ :: _, [], _, h => nomatch h
  | x :: xs, y :: ys, b, h => by
    have h : ((f x y).bind fun b => (eqQL f xs ys).map fun c => b && c) = some b := h
    cases q : f x y with
    | none => rw [q] at h; cases h
    | some b1 =>
      rw [q] at h
      have h : ((eqQL f xs ys).map fun c => b1 && c) = some b := h
      cases q2 : eqQL f xs ys with
      | none => rw [q2] at h; cases h
      | some c =>
        rw [q2] at h
        cases h
        obtain ⟨a1, a2, a3⟩ := eqQL_all q2
        refine ⟨by simp [a1], fun j u w hu hw => ?_, ?_⟩
        · cases j with
          | zero =>
            cases hu; cases hw
            exact ⟨_, q⟩
          | succ j => exact a2 j u w (by simpa using hu) (by simpa using hw)
        · rw [List.length_cons, List.range_succ_eq_map, List.all_cons, List.all_map]
          have e0 : eAt f (x :: xs) (y :: ys) 0 = b1 := by show (f x y).getD true = b1; rw [q]; rfl
          have e1 : (eAt f (x :: xs) (y :: ys) ∘ Nat.succ) = eAt f xs ys := by funext j; rfl
          rw [e0, e1, a3]
def eKey (f : D → D → Option Bool) (ks : List Key) (ds : List D) (js : List Key) (es : List D) (k : Key) : Bool := match lookK ks ds k, lookK js es k with
  | some x, some y => (f x y).getD true
  | _, _ => true
theorem look_mid {κ : Type} [DecidableEq κ] : ∀ {pre : List κ} {pe : List D} {k : κ} {ks : List κ} {d : D} {ds : List D}, pre.length = pe.length → (pre ++ k :: ks).Nodup → lookK (pre ++ k :: ks) (pe ++ d :: ds) k = some d
  | [], [], k, ks, d, ds, _, _ => if_pos rfl
  | [], _ :: _, _, _, _, _, l, _ => nomatch l
  | _ :: _, [], _, _, _, _, l, _ => nomatch l
  | p :: pre, z :: pe, k, ks, d, ds, l, nd => by
    have np : p ≠ k := fun ep => (List.nodup_cons.mp nd).1 (by rw [ep]; simp)
    show (if p = k then some z else lookK (pre ++ k :: ks) (pe ++ d :: ds) k) = _
    rw [if_neg np]
    exact look_mid (by simpa using l) (List.nodup_cons.mp nd).2
theorem eqQD_all {f : D → D → Option Bool} {js : List Key} {es : List D} : ∀ {pre : List Key} {pe : List D} {ks : List Key} {ds : List D} {c : Bool}, pre.length = pe.length → ks.length = ds.length → (pre ++ ks).Nodup → eqQD f js es ks ds = some c →
    (∀ k d w, k ∈ ks → lookK (pre ++ ks) (pe ++ ds) k = some d → lookK js es k = some w → ∃ b, f d w = some b) ∧ ks.all (fun k => (lookK js es k).isSome && eKey f (pre ++ ks) (pe ++ ds) js es k) = c
  | pre, pe, [], ds, c, _, _, _, h => by
    have h : some true = some c := by cases ds <;> exact h
    cases h
    exact ⟨(fun k d w m => by cases m), rfl⟩
  | pre, pe, k :: ks, [], c, _, l, _, _ => nomatch l
  | pre, pe, k :: ks, d :: ds, c, lp, l, nd, h => by
    have h : ((match lookK js es k with
      | some w => f d w
      | none => some false).bind fun b => (eqQD f js es ks ds).map fun c => b && c) = some c := h
    have lk := look_mid (pe := pe) (d := d) (ds := ds) lp nd
    have e1 : pre ++ k :: ks = (pre ++ [k]) ++ ks := by simp
    have e2 : pe ++ d :: ds = (pe ++ [d]) ++ ds := by simp
    cases q2 : eqQD f js es ks ds with
    | none =>
      rw [q2] at h
      cases q : (match lookK js es k with
        | some w => f d w
        | none => some false) with
      | none => rw [q] at h; cases h
      | some b => rw [q] at h; cases h
    | some c2 =>
      rw [q2] at h
      obtain ⟨i1, i2⟩ := eqQD_all (pre := pre ++ [k]) (pe := pe ++ [d]) (by simp [lp]) (by simpa using l) (e1 ▸ nd) q2
      rw [← e1, ← e2] at i1 i2
      rw [List.all_cons, i2]
      have ek : eKey f (pre ++ k :: ks) (pe ++ d :: ds) js es k = (match lookK js es k with | some y => (f d y).getD true | none => true) := by
        unfold eKey
        rw [lk]
        cases lookK js es k <;> rfl
      rw [ek]
      cases q3 : lookK js es k with
      | none =>
        rw [q3] at h
        have h : some (false && c2) = some c := h
        cases h
        refine ⟨fun j d' w m a b => ?_, rfl⟩
        rcases List.mem_cons.mp m with rfl | m
        · rw [q3] at b; cases b
        · exact i1 j d' w m a b
      | some w =>
        rw [q3] at h
        have h : ((f d w).bind fun b => (some c2).map fun c => b && c) = some c := h
        cases q4 : f d w with
        | none => rw [q4] at h; cases h
        | some b =>
          rw [q4] at h
          have h : some (b && c2) = some c := h
          cases h
          refine ⟨fun j d' w' m a b' => ?_, ?_⟩
          · rcases List.mem_cons.mp m with rfl | m
            · rw [lk] at a; cases a
              rw [q3] at b'; cases b'
              exact ⟨_, q4⟩
            · exact i1 j d' w' m a b'
          · dsimp only
            rw [q4]; simp
theorem eqQ_plain {n : Nat} {d e : D} {b : Bool} (I : Inv X pins σ H s) {M1 M2 : AS} {x y : V} {v u : Value} (rv : RelV x v) (ru : RelV y u) (h1 : Rep X.K M1 H d x) (h2 : Rep X.K M2 H e y) (p1 : plainD (n + 1) d = true) (p2 : plainD (n + 1) e = true) :
    ∃ as bs, Reads s.heap v (toPy d) as ∧ Reads s.heap u (toPy e) bs ∧ PyData.eqv (toPy d) (toPy e) = deq d e := by
  obtain ⟨as, r1⟩ := Dp.reads I _ _ v (Rep.dp d x (n + 1) p1 h1) rv
  obtain ⟨bs, r2⟩ := Dp.reads I _ _ u (Rep.dp e y (n + 1) p2 h2) ru
  exact ⟨as, bs, r1, r2, deq_py d e (n + 1) (n + 1) p1 p2⟩
theorem dkQ (I : Inv X pins σ H s) {a : Addr} {ks : List Key} {ds : List D} {M : AS} {vs : List V} (d1 : Rd H a (.dK (ks.zip vs))) (l : ks.length = ds.length) (r : Reps X.K M H ds vs) :
    ∃ ka, (a == sysModules) = false ∧ s.heap.DictOf (mixKind X.prog X.w) a ka ∧ ka.map (·.1) = ks ∧ ∀ k, (lookK ks ds k = none → valueAt ka k = none) ∧ ∀ d, lookK ks ds k = some d → ∃ x u, Rep X.K M H d x ∧ RelV x u ∧ valueAt ka k = some u := by
  obtain ⟨_, hs, ka, rel, dd⟩ := dk_rd I.hok d1
  refine ⟨ka, hs, dd, ?_, fun k => ?_⟩
  · rw [← rel.keys, List.map_fst_zip]; rw [r.len]; omega
  · obtain ⟨a1, a2⟩ := val_rep k l r
    have rv := rel.val k
    refine ⟨fun e => ?_, fun d e => ?_⟩
    · rw [a2 e] at rv
      exact RelO.none_of rv
    · obtain ⟨x, e1, e2⟩ := a1 d e
      rw [e1] at rv
      obtain ⟨u, hu, ru⟩ := RelO.some_of rv
      exact ⟨x, u, e2, ru, hu⟩
theorem dkQ_all {n : Nat} {ks js : List Key} {ds es : List D} {c : Bool} {ka kb : List (Key × Value)} (hn : ks.Nodup) (l1 : ks.length = ds.length) (ek : ka.map (·.1) = ks) (ej : kb.map (·.1) = js) (fb : ∀ k, (valueAt kb k).isSome = (lookK js es k).isSome) (h : eqQD (eqQ n) js es ks ds = some c) :
    (ka.length == kb.length && ka.all fun p => (valueAt kb p.1).isSome && eKey (eqQ n) ks ds js es p.1) = (decide (ks.length = js.length) && c) := by
  obtain ⟨_, h2⟩ := eqQD_all (pre := []) (pe := []) rfl l1 hn h
  have e1 : ka.length = ks.length := by rw [← ek, List.length_map]
  have e2 : kb.length = js.length := by rw [← ej, List.length_map]
  rw [e1, e2]
  congr 1
  rw [← h2, ← ek, List.all_map]
  congr 1
  funext p
  simp only [List.nil_append, Function.comp, fb]
theorem treeQ (I : Inv X pins σ H s) {M1 M2 : AS} : ∀ (n : Nat) (d e : D) (b : Bool) (x y : V) (v u : Value), RelV x v → RelV y u → eqQ n d e = some b → Rep X.K M1 H d x → Rep X.K M2 H e y → PySem.W.EqTree X.prog X.w s n v u b
  | 0, _, _, _, _, _, _, _, _, _, h, _, _ => nomatch h
  | n + 1, d, e, b, x, y, v, u, rv, ru, h, h1, h2 => by
    have h0 := h
    unfold eqQ at h
    split at h
    · rename_i hp
      cases h
      rw [Bool.and_eq_true] at hp
      obtain ⟨as, bs, r1, r2, ed⟩ := eqQ_plain (b := true) I rv ru h1 h2 hp.1 hp.2
      rw [← ed]
      have p1 := plain_lay d (n + 1) hp.1
      have p2 := plain_lay e (n + 1) hp.2
      exact .leaf fun A hu => SeqAt.eqAt_reads _ _ A s v u as bs r1 r2 p1.1 p2.1 (by omega)
    · split at h
      · rename_i xs ys _
        obtain ⟨a, vs, ex, l1, r1⟩ := id h1
        obtain ⟨a', vs', ey, l2, r2⟩ := id h2
        subst ex ey
        cases rv
        cases ru
        by_cases q : a = a'
        · subst q
          rw [sameQ I (n + 1) _ _ b (.ref a) (.ref a) rfl h0 h1 h2]
          exact .same
        · obtain ⟨its, rs, p1, _⟩ := I.list l1.sq
          obtain ⟨its2, rs2, p2, _⟩ := I.list l2.sq
          obtain ⟨q1, q2, q3⟩ := eqQL_all h
          have n1 := rs.length
          have n2 := rs2.length
          have m1 := r1.len
          have m2 := r2.len
          have t := PySem.W.EqTree.lists (prog := X.prog) (w := X.w) (n := n) (e := eAt (eqQ n) xs ys) q p1.isList p2.isList (by simp; omega) (fun j j1 j2 => by
            have k1 : j < its.length := by simpa using j1
            have k2 : j < its2.length := by simpa using j2
            obtain ⟨w1, g1, g2⟩ := r1.get (i := j) (List.getElem?_eq_getElem (by omega))
            obtain ⟨w2, g3, g4⟩ := r2.get (i := j) (List.getElem?_eq_getElem (by omega))
            obtain ⟨c, hc⟩ := q2 j _ _ (List.getElem?_eq_getElem (by omega)) (List.getElem?_eq_getElem (by omega))
            obtain ⟨z1, z2, z3⟩ := rs.get g1
            obtain ⟨z4, z5, z6⟩ := rs2.get g3
            have y1 : z1 = its[j] := by rw [List.getElem?_eq_getElem k1] at z2; exact (Option.some.inj z2).symm
            have y2 : z4 = its2[j] := by rw [List.getElem?_eq_getElem k2] at z5; exact (Option.some.inj z5).symm
            subst y1 y2
            have ec : eAt (eqQ n) xs ys j = c := by
              unfold eAt
              rw [List.getElem?_eq_getElem (by omega), List.getElem?_eq_getElem (by omega)]
              show (eqQ n _ _).getD true = c
              rw [hc]; rfl
            rw [ec]
            exact treeQ I n _ _ c _ _ _ _ z3 z6 hc g2 g4)
          have es : its.toArray.size = xs.length := by show its.length = _; rw [← n1, m1]
          rw [es, q3] at t
          exact t
      · rename_i xs ys _
        obtain ⟨a, vs, ex, l1, r1⟩ := id h1
        obtain ⟨a', vs', ey, l2, r2⟩ := id h2
        subst ex ey
        cases rv
        cases ru
        by_cases q : a = a'
        · subst q
          rw [sameQ I (n + 1) _ _ b (.ref a) (.ref a) rfl h0 h1 h2]
          exact .same
        · obtain ⟨its, rs, p1, _⟩ := I.tuple l1.sq
          obtain ⟨its2, rs2, p2, _⟩ := I.tuple l2.sq
          obtain ⟨q1, q2, q3⟩ := eqQL_all h
          have n1 := rs.length
          have n2 := rs2.length
          have m1 := r1.len
          have m2 := r2.len
          have t := PySem.W.EqTree.tuples (prog := X.prog) (w := X.w) (n := n) (e := eAt (eqQ n) xs ys) q p1 p2 (fun j j1 j2 => by
            have k1 : j < its.length := by simpa using j1
            have k2 : j < its2.length := by simpa using j2
            obtain ⟨w1, g1, g2⟩ := r1.get (i := j) (List.getElem?_eq_getElem (by omega))
            obtain ⟨w2, g3, g4⟩ := r2.get (i := j) (List.getElem?_eq_getElem (by omega))
            obtain ⟨c, hc⟩ := q2 j _ _ (List.getElem?_eq_getElem (by omega)) (List.getElem?_eq_getElem (by omega))
            obtain ⟨z1, z2, z3⟩ := rs.get g1
            obtain ⟨z4, z5, z6⟩ := rs2.get g3
            have y1 : z1 = its[j] := by rw [List.getElem?_eq_getElem k1] at z2; exact (Option.some.inj z2).symm
            have y2 : z4 = its2[j] := by rw [List.getElem?_eq_getElem k2] at z5; exact (Option.some.inj z5).symm
            subst y1 y2
            have ec : eAt (eqQ n) xs ys j = c := by
              unfold eAt
              rw [List.getElem?_eq_getElem (by omega), List.getElem?_eq_getElem (by omega)]
              show (eqQ n _ _).getD true = c
              rw [hc]; rfl
            rw [ec]
            exact treeQ I n _ _ c _ _ _ _ z3 z6 hc g2 g4)
          have es : min its.toArray.size its2.toArray.size = xs.length := by show min its.length its2.length = _; rw [← n1, ← n2, m1, m2, ← q1, Nat.min_self]
          have ez : (its.toArray.size == its2.toArray.size) = true := by
            rw [beq_iff_eq]; show its.length = its2.length; omega
          rw [es, q3, ez, Bool.and_true] at t
          exact t
      · rename_i ks ds js es _
        split at h
        · rename_i hc
          obtain ⟨a, vs, ex, ⟨_, d1⟩, l1, r1⟩ := id h1
          obtain ⟨a', vs', ey, ⟨_, d2⟩, l2, r2⟩ := id h2
          subst ex ey
          cases rv
          cases ru
          by_cases q : a = a'
          · subst q
            rw [sameQ I (n + 1) _ _ b (.ref a) (.ref a) rfl h0 h1 h2]
            exact .same
          · cases qd : eqQD (eqQ n) js es ks ds with
            | none => rw [qd] at h; cases h
            | some c =>
              rw [qd] at h
              have h : some (decide (ks.length = js.length) && c) = some b := h
              cases h
              obtain ⟨ka, s1, da, ka1, ka2⟩ := dkQ I d1 l1 r1
              obtain ⟨kb, s2, db, kb1, kb2⟩ := dkQ I d2 l2 r2
              have fb : ∀ k, (valueAt kb k).isSome = (lookK js es k).isSome := fun k => by
                cases qk : lookK js es k with
                | none => rw [(kb2 k).1 qk]; rfl
                | some w =>
                  obtain ⟨_, u, _, _, e3⟩ := (kb2 k).2 w qk
                  rw [e3]; rfl
              rw [← dkQ_all hc.1 l1 ka1 kb1 fb qd]
              refine .dicts q s1 s2 da db fun k v y hm hv => ?_
              have nd : (ka.map (·.1)).Nodup := by rw [ka1]; exact hc.1
              have hk : k ∈ ks := by rw [← ka1]; exact List.mem_map.mpr ⟨_, hm, rfl⟩
              have va : valueAt ka k = some v := valueAt_of_mem nd hm
              cases qk : lookK ks ds k with
              | none => rw [(ka2 k).1 qk] at va; cases va
              | some d' =>
                obtain ⟨x1, u1, g1, g2, g3⟩ := (ka2 k).2 d' qk
                rw [va] at g3; cases g3
                cases qj : lookK js es k with
                | none => rw [(kb2 k).1 qj] at hv; cases hv
                | some e' =>
                  obtain ⟨x2, u2, g4, g5, g6⟩ := (kb2 k).2 e' qj
                  rw [hv] at g6; cases g6
                  obtain ⟨c', hc'⟩ := (eqQD_all (pre := []) (pe := []) rfl l1 hc.1 qd).1 k d' e' hk qk qj
                  have ec : eKey (eqQ n) ks ds js es k = c' := by
                    unfold eKey
                    rw [qk, qj]
                    show (eqQ n d' e').getD true = c'
                    rw [hc']; rfl
                  rw [ec]
                  exact treeQ I n d' e' c' _ _ _ _ g2 g5 hc' g1 g4
        · cases h
      · cases h
/-- the operator == over such data -/
theorem op_eqQ (hu : X.A.units + 64 < cLine) {d e : D} {b : Bool} {x y : V} {v u : Value} {Q : VK} {M1 M2 : AS} (I : Inv X pins σ H s) (rv : RelV x v) (ru : RelV y u) (h : eqQ 60 d e = some b) (h1 : Rep X.K M1 H d x) (h2 : Rep X.K M2 H e y) (q : Q (.bl b) H) :
    wpAny (model X.prog X.w) X.A (compareOp .Eq v u) (EP X pins σ Q) X.xe s := by
  have fin : EP X pins σ Q (.bool b) s := ⟨.bl b, H, I, rfl, q⟩
  unfold eqQ at h
  split at h
  · rename_i hp
    cases h
    rw [Bool.and_eq_true] at hp
    obtain ⟨as, bs, r1, r2, ed⟩ := eqQ_plain (b := true) I rv ru h1 h2 hp.1 hp.2
    have p1 := plain_lay d 60 hp.1
    have p2 := plain_lay e 60 hp.2
    exact SeqAt.compareEq_reads r1 r2 p1.1 p2.1 (by omega) (by rw [ed]; exact fin)
  · split at h
    · rename_i xs ys _
      obtain ⟨a, vs, ex, l1, r1⟩ := id h1
      obtain ⟨a', vs', ey, l2, r2⟩ := id h2
      subst ex ey
      cases rv
      cases ru
      obtain ⟨its, rs, p1, _⟩ := I.list l1.sq
      obtain ⟨its2, rs2, p2, _⟩ := I.list l2.sq
      obtain ⟨q1, q2, q3⟩ := eqQL_all h
      have n1 := rs.length
      have n2 := rs2.length
      have m1 := r1.len
      have m2 := r2.len
      have es : its.toArray.size = xs.length := by show its.length = _; rw [← n1, m1]
      refine PySem.W.eq_listsT (n := 59) (e := eAt (eqQ 59) xs ys) p1.isList p2.isList (by simp; omega) (fun j j1 j2 => ?_) (by omega) (by rw [es, q3]; exact fin)
      have k1 : j < its.length := by simpa using j1
      have k2 : j < its2.length := by simpa using j2
      obtain ⟨w1, g1, g2⟩ := r1.get (i := j) (List.getElem?_eq_getElem (by omega))
      obtain ⟨w2, g3, g4⟩ := r2.get (i := j) (List.getElem?_eq_getElem (by omega))
      obtain ⟨c, hc⟩ := q2 j _ _ (List.getElem?_eq_getElem (by omega)) (List.getElem?_eq_getElem (by omega))
      obtain ⟨z1, z2, z3⟩ := rs.get g1
      obtain ⟨z4, z5, z6⟩ := rs2.get g3
      have y1 : z1 = its[j] := by rw [List.getElem?_eq_getElem k1] at z2; exact (Option.some.inj z2).symm
      have y2 : z4 = its2[j] := by rw [List.getElem?_eq_getElem k2] at z5; exact (Option.some.inj z5).symm
      subst y1 y2
      have ec : eAt (eqQ 59) xs ys j = c := by
        unfold eAt
        rw [List.getElem?_eq_getElem (by omega), List.getElem?_eq_getElem (by omega)]
        show (eqQ 59 _ _).getD true = c
        rw [hc]; rfl
      rw [ec]
      exact treeQ I 59 _ _ c _ _ _ _ z3 z6 hc g2 g4
    · rename_i xs ys _
      obtain ⟨a, vs, ex, l1, r1⟩ := id h1
      obtain ⟨a', vs', ey, l2, r2⟩ := id h2
      subst ex ey
      cases rv
      cases ru
      obtain ⟨its, rs, p1, _⟩ := I.tuple l1.sq
      obtain ⟨its2, rs2, p2, _⟩ := I.tuple l2.sq
      obtain ⟨q1, q2, q3⟩ := eqQL_all h
      have n1 := rs.length
      have n2 := rs2.length
      have m1 := r1.len
      have m2 := r2.len
      have es : min its.toArray.size its2.toArray.size = xs.length := by show min its.length its2.length = _; rw [← n1, ← n2, m1, m2, ← q1, Nat.min_self]
      have ez : (its.toArray.size == its2.toArray.size) = true := by
        rw [beq_iff_eq]; show its.length = its2.length; omega
      refine PySem.W.eq_tuplesT (n := 59) (e := eAt (eqQ 59) xs ys) p1 p2 (fun j j1 j2 => ?_) (by omega) (by rw [es, q3, ez, Bool.and_true]; exact fin)
      have k1 : j < its.length := by simpa using j1
      have k2 : j < its2.length := by simpa using j2
      obtain ⟨w1, g1, g2⟩ := r1.get (i := j) (List.getElem?_eq_getElem (by omega))
      obtain ⟨w2, g3, g4⟩ := r2.get (i := j) (List.getElem?_eq_getElem (by omega))
      obtain ⟨c, hc⟩ := q2 j _ _ (List.getElem?_eq_getElem (by omega)) (List.getElem?_eq_getElem (by omega))
      obtain ⟨z1, z2, z3⟩ := rs.get g1
      obtain ⟨z4, z5, z6⟩ := rs2.get g3
      have y1 : z1 = its[j] := by rw [List.getElem?_eq_getElem k1] at z2; exact (Option.some.inj z2).symm
      have y2 : z4 = its2[j] := by rw [List.getElem?_eq_getElem k2] at z5; exact (Option.some.inj z5).symm
      subst y1 y2
      have ec : eAt (eqQ 59) xs ys j = c := by
        unfold eAt
        rw [List.getElem?_eq_getElem (by omega), List.getElem?_eq_getElem (by omega)]
        show (eqQ 59 _ _).getD true = c
        rw [hc]; rfl
      rw [ec]
      exact treeQ I 59 _ _ c _ _ _ _ z3 z6 hc g2 g4
    · rename_i ks ds js es _
      split at h
      · rename_i hc
        obtain ⟨a, vs, ex, ⟨_, d1⟩, l1, r1⟩ := id h1
        obtain ⟨a', vs', ey, ⟨_, d2⟩, l2, r2⟩ := id h2
        subst ex ey
        cases rv
        cases ru
        cases qd : eqQD (eqQ 59) js es ks ds with
        | none => rw [qd] at h; cases h
        | some c =>
          rw [qd] at h
          have h : some (decide (ks.length = js.length) && c) = some b := h
          cases h
          obtain ⟨ka, s1, da, ka1, ka2⟩ := dkQ I d1 l1 r1
          obtain ⟨kb, s2, db, kb1, kb2⟩ := dkQ I d2 l2 r2
          have fb : ∀ k, (valueAt kb k).isSome = (lookK js es k).isSome := fun k => by
            cases qk : lookK js es k with
            | none => rw [(kb2 k).1 qk]; rfl
            | some w =>
              obtain ⟨_, u, _, _, e3⟩ := (kb2 k).2 w qk
              rw [e3]; rfl
          refine PySem.W.eq_dictsT (n := 59) (e := eKey (eqQ 59) ks ds js es) s1 s2 da db (fun k v y hm hv => ?_) (by omega) (by rw [dkQ_all hc.1 l1 ka1 kb1 fb qd]; exact fin)
          have nd : (ka.map (·.1)).Nodup := by rw [ka1]; exact hc.1
          have hk : k ∈ ks := by rw [← ka1]; exact List.mem_map.mpr ⟨_, hm, rfl⟩
          have va : valueAt ka k = some v := valueAt_of_mem nd hm
          cases qk : lookK ks ds k with
          | none => rw [(ka2 k).1 qk] at va; cases va
          | some d' =>
            obtain ⟨x1, u1, g1, g2, g3⟩ := (ka2 k).2 d' qk
            rw [va] at g3; cases g3
            cases qj : lookK js es k with
            | none => rw [(kb2 k).1 qj] at hv; cases hv
            | some e' =>
              obtain ⟨x2, u2, g4, g5, g6⟩ := (kb2 k).2 e' qj
              rw [hv] at g6; cases g6
              obtain ⟨c', hc'⟩ := (eqQD_all (pre := []) (pe := []) rfl l1 hc.1 qd).1 k d' e' hk qk qj
              have ec : eKey (eqQ 59) ks ds js es k = c' := by
                unfold eKey
                rw [qk, qj]
                show (eqQ 59 d' e').getD true = c'
                rw [hc']; rfl
              rw [ec]
              exact treeQ I 59 d' e' c' _ _ _ _ g2 g5 hc' g1 g4
      · cases h
    · cases h
end
end PL

namespace PL
section
open PySem PySem.SeqAt PySem.MeetsSeq PySem.MeetsSeq2 PySem.MeetsSeq3 PySem.SeqRoads2
open PySem.AutoSeq1 (wpAny_loadPart')
variable {prog : Program} {w : World}
theorem ne_loopI (p q : Addr) (xs ys : Array Value) (m1 m2 : Nat) (c1 c2 : Option Addr) (t1 t2 : Array (Option Value)) (hz : xs.size = ys.size) (f : Nat → Bool) (k : Nat) :
    ∀ i : Nat, xs.size - i = k → MeetsIn prog w (Builtin.«list.__eq__.loop» ⟨[.ref p, .ref q, rawInt i, rawInt 3], []⟩)
      (fun A R s => s.heap.get? p = some { cls := .type "list", dict := c1, data := .seq xs m1, slots := t1 } ∧ s.heap.get? q = some { cls := .type "list", dict := c2, data := .seq ys m2, slots := t2 } ∧
        (∀ j (j1 : j < xs.size) (j2 : j < ys.size), EqIn prog w A.in1 s xs[j] ys[j] (f j)) ∧
        R (.ok (.ret (.bool (!((List.range xs.size).drop i).all f)))) s) := by
  induction k with
  | zero =>
    intro i hk A R s z
    obtain ⟨hp, g, d, tk, os⟩ := s; obtain ⟨z1, z2, ze, z⟩ := z
    wp_walk using wpAny_loadPart' z1, wpAny_loadPart' z2
    have g1 : xs[((i : Nat) : Int).toNat]? = none := by simp; omega
    have g2 : ys[((i : Nat) : Int).toNat]? = none := by simp; omega
    have g3 : (List.range xs.size).drop i = [] := by simp; omega
    rw [g3] at z
    rw [g1, g2]
    wp_walk using wpAny_loadPart' z1, wpAny_loadPart' z2
    show R (.ok (.ret (.bool (xs.size != ys.size)))) _
    rw [hz]
    simpa using z
  | succ k ih =>
    intro i hk A R s z
    obtain ⟨hp, g, d, tk, os⟩ := s; obtain ⟨z1, z2, ze, z⟩ := z
    wp_walk using wpAny_loadPart' z1, wpAny_loadPart' z2
    have l1 : i < xs.size := by omega
    have l2 : i < ys.size := by omega
    have g1 : xs[((i : Nat) : Int).toNat]? = some xs[i] := by simp [l1]
    have g2 : ys[((i : Nat) : Int).toNat]? = some ys[i] := by simp [l2]
    have g3 : (List.range xs.size).drop i = i :: (List.range xs.size).drop (i + 1) := by simp [List.drop_eq_getElem_cons, l1]
    have g4 : ((i : Int) + 1) = ((i + 1 : Nat) : Int) := by push_cast; rfl
    rw [g3, List.all_cons] at z
    rw [g1, g2]
    refine wpAny_bind (ze i l1 l2 _ _ ?_)
    cases zb : f i with
    | true =>
      rw [zb] at z
      wp_walk
      rw [g4]
      exact ⟨plainId_quiet plain_eq_loop _, codeAny_builtin entry_eq_loop (by
        (rw [Around.under_plainId plain_eq_loop _])
        exact ih (i + 1) (by omega) A R _ ⟨z1, z2, ze, by simpa using z⟩)⟩
    | false =>
      rw [zb] at z
      wp_walk using wpAny_loadPart' z1, wpAny_loadPart' z2
      rw [g1, g2]
      wp_walk
      simpa using z
theorem list_neI (p q : Addr) (xs ys : Array Value) (m1 m2 : Nat) (c1 c2 : Option Addr) (t1 t2 : Array (Option Value)) (hz : xs.size = ys.size) (f : Nat → Bool) :
    MeetsIn prog w (Builtin.«list.__ne__» ⟨[.ref p, .ref q], []⟩)
      (fun A R s => s.heap.get? p = some { cls := .type "list", dict := c1, data := .seq xs m1, slots := t1 } ∧ s.heap.get? q = some { cls := .type "list", dict := c2, data := .seq ys m2, slots := t2 } ∧
        (∀ j (j1 : j < xs.size) (j2 : j < ys.size), EqIn prog w A.in1 s xs[j] ys[j] (f j)) ∧
        R (.ok (.ret (.bool (!(List.range xs.size).all f)))) s) := by
  intro A R s z
  obtain ⟨hp, g, d, tk, os⟩ := s; obtain ⟨z1, z2, ze, z⟩ := z
  (have f3 := AutoSeq1.sub_list_list)
  have hn : ¬ (xs.size != ys.size) = true := by simp [hz]
  wp_walk using wpAny_loadPart' z1, wpAny_loadPart' z2
  exact ⟨plainId_quiet plain_eq_loop _, codeAny_builtin entry_eq_loop (by
    (rw [Around.under_plainId plain_eq_loop _])
    exact ne_loopI p q xs ys m1 m2 c1 c2 t1 t2 hz f _ 0 rfl A R _ ⟨z1, z2, ze, by simpa using z⟩)⟩
theorem rcNeI_lists {A : Around} {s : Shared} {E : Value → Shared → Prop} {p q : Addr} {xs ys : Array Value} {f : Nat → Bool} {Q : Value → Shared → Prop} (hp : s.heap.IsList p xs) (hq : s.heap.IsList q ys) (hz : xs.size = ys.size) (hu : A.units < cLine)
    (he : ∀ j (j1 : j < xs.size) (j2 : j < ys.size), EqIn prog w A.in1 s xs[j] ys[j] (f j)) (h : Q (.bool (!(List.range xs.size).all f)) s) : wpAny (model prog w) A (richCompare .NotEq (.ref p) (.ref q)) Q E s := by
  obtain ⟨⟨k1, d1, a1, s1⟩, o1, e1, n1, g1⟩ := id hp
  obtain ⟨⟨k2, d2, a2, s2⟩, o2, e2, n2, g2⟩ := id hq
  simp only at e1 g1 e2 g2
  subst e1 g1 e2 g2
  exact wpAny_richCompare_same_room (T := "list") (op := .NotEq) ⟨_, o1, rfl⟩ ⟨_, o2, rfl⟩ F.slot_list_ne (call_meetsIn F.slot_list_ne ⟨_, o1, rfl⟩ F.entry_list_ne (F.args_list_ne_2 _ _) (list_neI p q xs ys n1 n2 d1 d2 s1 s2 hz f)
    ⟨o1, o2, he, show Value.bool (!(List.range xs.size).all f) ≠ Value.notImplemented ∧ Q (.bool (!(List.range xs.size).all f)) s from ⟨(fun x => nomatch x), h⟩⟩) hu
end
open L2 PyProof.Rows PySem.Spec PySem
variable {X : Cx} {σ : L2.St} {H : Hp} {s : Shared} {pins : List (Addr × Obj)}
/-- != of two lists -/
theorem op_neQ (hu : X.A.units + 64 < cLine) {xs ys : List D} {b : Bool} {x y : V} {v u : Value} {Q : VK} {M1 M2 : AS} (I : Inv X pins σ H s) (rv : RelV x v) (ru : RelV y u) (h : eqQ 60 (.lst xs) (.lst ys) = some b) (h1 : Rep X.K M1 H (.lst xs) x) (h2 : Rep X.K M2 H (.lst ys) y) (hq : Q (.bl (!b)) H) :
    wpAny (model X.prog X.w) X.A (compareOp .NotEq v u) (EP X pins σ Q) X.xe s := by
  have fin : EP X pins σ Q (.bool (!b)) s := ⟨.bl (!b), H, I, rfl, hq⟩
  unfold eqQ at h
  split at h
  · rename_i hp
    cases h
    rw [Bool.and_eq_true] at hp
    obtain ⟨as, bs, r1, r2, ed⟩ := eqQ_plain (b := true) I rv ru h1 h2 hp.1 hp.2
    have p1 := plain_lay (.lst xs) 60 hp.1
    have p2 := plain_lay (.lst ys) 60 hp.2
    exact SeqAt.compareNe_reads r1 r2 p1.1 p2.1 (by omega) (by rw [ed]; exact fin)
  · obtain ⟨a, vs, ex, l1, r1⟩ := id h1
    obtain ⟨a', vs', ey, l2, r2⟩ := id h2
    subst ex ey
    cases rv
    cases ru
    obtain ⟨its, rs, p1, _⟩ := I.list l1.sq
    obtain ⟨its2, rs2, p2, _⟩ := I.list l2.sq
    obtain ⟨q1, q2, q3⟩ := eqQL_all h
    have n1 := rs.length
    have n2 := rs2.length
    have m1 := r1.len
    have m2 := r2.len
    have es : its.toArray.size = xs.length := by show its.length = _; rw [← n1, m1]
    refine rcNeI_lists (f := eAt (eqQ 59) xs ys) p1.isList p2.isList (by simp; omega) (by omega) (fun j j1 j2 => ?_) (by rw [es, q3]; exact fin)
    have k1 : j < its.length := by simpa using j1
    have k2 : j < its2.length := by simpa using j2
    obtain ⟨w1, g1, g2⟩ := r1.get (i := j) (List.getElem?_eq_getElem (by omega))
    obtain ⟨w2, g3, g4⟩ := r2.get (i := j) (List.getElem?_eq_getElem (by omega))
    obtain ⟨c, hc⟩ := q2 j _ _ (List.getElem?_eq_getElem (by omega)) (List.getElem?_eq_getElem (by omega))
    obtain ⟨z1, z2, z3⟩ := rs.get g1
    obtain ⟨z4, z5, z6⟩ := rs2.get g3
    have y1 : z1 = its[j] := by rw [List.getElem?_eq_getElem k1] at z2; exact (Option.some.inj z2).symm
    have y2 : z4 = its2[j] := by rw [List.getElem?_eq_getElem k2] at z5; exact (Option.some.inj z5).symm
    subst y1 y2
    have ec : eAt (eqQ 59) xs ys j = c := by
      unfold eAt
      rw [List.getElem?_eq_getElem (by omega), List.getElem?_eq_getElem (by omega)]
      show (eqQ 59 _ _).getD true = c
      rw [hc]; rfl
    rw [ec]
    exact (treeQ I 59 _ _ c _ _ _ _ z3 z6 hc g2 g4).at X.A.in1 (by show X.A.units + 1 + 59 < cLine; omega)
end PL

namespace PL
open L2 PyProof.Rows PySem.Spec PySem

theorem plain_shaped {d : D} (p : plainD 60 d = true) : SeqAt.shaped (toPy d) = true := by
  obtain ⟨a, b⟩ := plain_lay d 60 p
  unfold SeqAt.shaped
  rw [a, decide_eq_true (by omega)]; rfl

/-- flat data is its value -/
def vOf : D → V
  | .bl b => .bl b
  | .int i => .int i
  | .str x => .str x
  | _ => .non
section
variable {K : PySem.W.Frag} {M Mt Mi : AS} {H : Hp}
theorem Rep.flatV {d : D} {v : V} (f : flatD d = true) (h : Rep K M H d v) : v = vOf d := by
  cases d <;> first | exact h | cases f
theorem RepT.flatV {d : D} {v : V} (f : flatD d = true) (h : RepT K Mt Mi H d v) : v = vOf d := by
  cases d <;> first | exact h | cases f
theorem flatV_vOf (d : D) : L2.flatV (vOf d) = true := by cases d <;> rfl
theorem eqV_vOf : ∀ {d e : D}, flatD d = true → flatD e = true → eqV (vOf d) (vOf e) = deq d e := by
  intro d e f g
  cases d <;> cases f <;> cases e <;> first | cases g; rfl | cases g
theorem deq_scl {d e : D} (s : sclD d e = true) : scal (vOf d) (vOf e) = true ∧ decide (vOf d = vOf e) = deq d e ∧ flatD d = true ∧ flatD e = true := by
  cases d <;> cases e <;> first
    | exact Bool.noConfusion s
    | (refine ⟨rfl, ?_, rfl, rfl⟩; first | rfl | exact dec_int | exact dec_bl | exact dec_str | decide | simp [vOf, deq])
theorem Reps.flatV : ∀ {ds : List D} {vs : List V}, ds.all flatD = true → Reps K M H ds vs → vs = ds.map vOf
  | [], _, _, h => h
  | d :: ds, _, f, ⟨v, r, e, h1, h2⟩ => by
    (rw [List.all_cons, Bool.and_eq_true] at f)
    subst e
    rw [h1.flatV f.1, Reps.flatV f.2 h2]; rfl
theorem RepT.dp {d : D} {v : V} (p : plainD 60 d = true) (h : RepT K F0 F0 H d v) : Dp K H v (toPy d) := Rep.dp d v 60 p h.rep
theorem RepT.free {d : D} {v : V} (h : RepT K Mt Mi H d v) : RepT K F0 F0 H d v := h.less (fun _ z => z.elim) fun _ z => z.elim
theorem inV_map {d : D} (f : flatD d = true) : ∀ {ds : List D}, ds.all flatD = true → inV (vOf d) (ds.map vOf) = ds.any fun z => deq z d
  | [], _ => rfl
  | e :: ds, g => by
    rw [List.all_cons, Bool.and_eq_true] at g
    have ih := inV_map f g.2
    unfold inV at ih ⊢
    rw [List.map_cons, List.any_cons, List.any_cons, ih, eqV_vOf g.1 f]
theorem any_py {d : D} (p : plainD 60 d = true) : ∀ {ds : List D} (n : Nat), ds.all (plainD n) = true → ((toPys ds).any fun z => PyData.eqv z (toPy d)) = ds.any fun z => deq z d
  | [], _, _ => rfl
  | e :: ds, n, g => by
    rw [List.all_cons, Bool.and_eq_true] at g
    show (PyData.eqv (toPy e) (toPy d) || (toPys ds).any fun z => PyData.eqv z (toPy d)) = _
    rw [List.any_cons, any_py p n g.2, deq_py e d n 60 g.1 p]
end

section
variable {X : Cx}
/-- a comparison, by values -/
def rCm (K : PySem.W.Frag) (op : CmpOp) : R2 := fun x y H Q => ∃ d e b, RepT K F0 F0 H d x ∧ RepT K F0 F0 H e y ∧ cmpD op d e = .ok b ∧ Q (.bl b) H
theorem op_cmp {op : CmpOp} (hu : X.A.units + 65 < cLine) : OpR X (compareOp op) (rCm X.K op) := by
  (intro pins s σ H x y v u Q I rx ry h)
  obtain ⟨d, e, b, hd, he, c, q⟩ := h
  have eqs : ∀ b, (if sclD d e || (plainD 60 d && plainD 60 e) then R.ok (deq d e) else eqR d e) = .ok b → Q (.bl b) H → wpAny (model X.prog X.w) X.A (compareOp .Eq v u) (EP X pins σ Q) X.xe s := fun b c q => by
    split at c
    · rename_i hc
      cases c
      by_cases hs : sclD d e = true
      · obtain ⟨s1, s2, s3, s4⟩ := deq_scl hs
        have e1 := hd.flatV s3
        have e2 := he.flatV s4
        subst e1 e2
        exact op_eq pins s σ H _ _ v u Q I rx ry ⟨s1, by rw [s2]; exact q⟩
      · rw [Bool.eq_false_iff.mpr hs, Bool.false_or, Bool.and_eq_true] at hc
        exact op_eqD (by omega) pins s σ H _ _ v u Q I rx ry ⟨_, _, hd.dp hc.1, he.dp hc.2, plain_shaped hc.1, plain_shaped hc.2, by rw [deq_py d e 60 60 hc.1 hc.2]; exact q⟩
    · unfold eqR at c
      split at c
      · rename_i hq
        cases c
        exact op_eqQ (by omega) I rx ry hq hd.rep he.rep q
      · cases c
  have nes : ∀ b, (if sclD d e || (plainD 60 d && plainD 60 e) then R.ok (!deq d e) else neR d e) = .ok b → Q (.bl b) H → wpAny (model X.prog X.w) X.A (compareOp .NotEq v u) (EP X pins σ Q) X.xe s := fun b c q => by
    split at c
    · rename_i hc
      cases c
      by_cases hs : sclD d e = true
      · obtain ⟨s1, s2, s3, s4⟩ := deq_scl hs
        have e1 := hd.flatV s3
        have e2 := he.flatV s4
        subst e1 e2
        exact op_ne pins s σ H _ _ v u Q I rx ry ⟨s1, by rw [s2]; exact q⟩
      · rw [Bool.eq_false_iff.mpr hs, Bool.false_or, Bool.and_eq_true] at hc
        exact op_neD (by omega) pins s σ H _ _ v u Q I rx ry ⟨_, _, hd.dp hc.1, he.dp hc.2, plain_shaped hc.1, plain_shaped hc.2, by rw [deq_py d e 60 60 hc.1 hc.2]; exact q⟩
    · unfold neR at c
      split at c
      · split at c
        · rename_i hq
          cases c
          exact op_neQ (by omega) I rx ry hq hd.rep he.rep q
        · cases c
      · cases c
  have nonV : isNon d = decide (x = .non) := by
    cases d with
    | non => have hd : x = .non := hd; rw [hd]; rfl
    | bl _ => have hd : x = .bl _ := hd; rw [hd]; rfl
    | int _ => have hd : x = .int _ := hd; rw [hd]; rfl
    | str _ => have hd : x = .str _ := hd; rw [hd]; rfl
    | tup _ => obtain ⟨a, vs, e, _⟩ := hd; rw [e]; rfl
    | lst _ => obtain ⟨a, vs, e, _⟩ := hd; rw [e]; rfl
    | dK _ _ => obtain ⟨a, vs, e, _⟩ := hd; rw [e]; rfl
    | dT _ _ => obtain ⟨a, vs, e, _⟩ := hd; rw [e]; rfl
    | ex _ _ =>
      obtain ⟨vs, _, q⟩ := hd
      obtain ⟨a, e⟩ := q.ref
      rw [e]; rfl
  cases op with
  | Eq => exact eqs b c q
  | NotEq => exact nes b c q
  | Lt =>
    unfold cmpD at c
    split at c <;> first
      | (rename_i h1; cases h1; cases c; exact op_lt pins s σ H _ _ v u Q I rx ry ⟨_, _, hd, he, q⟩)
      | (rename_i h1; cases h1)
      | cases c
  | LtE =>
    unfold cmpD at c
    split at c <;> first
      | (rename_i h1; cases h1; cases c; exact op_le pins s σ H _ _ v u Q I rx ry ⟨_, _, hd, he, q⟩)
      | (rename_i h1; cases h1)
      | cases c
  | Gt =>
    unfold cmpD at c
    split at c <;> first
      | (rename_i h1; cases h1; cases c; exact op_gt pins s σ H _ _ v u Q I rx ry ⟨_, _, hd, he, q⟩)
      | (rename_i h1; cases h1)
      | cases c
  | GtE =>
    unfold cmpD at c
    split at c <;> first
      | (rename_i h1; cases h1; cases c; exact op_ge pins s σ H _ _ v u Q I rx ry ⟨_, _, hd, he, q⟩)
      | (rename_i h1; cases h1)
      | cases c
  | Is =>
    unfold cmpD at c
    split at c <;> first
      | (rename_i h1; cases h1; cases c; exact op_isN pins s σ H _ _ v u Q I rx ry ⟨he, by rw [← nonV]; exact q⟩)
      | (rename_i h1; cases h1; cases c; exact op_is_bl pins s σ H _ _ v u Q I rx ry ⟨_, _, hd, he, q⟩)
      | (rename_i h1; cases h1)
      | cases c
  | IsNot =>
    unfold cmpD at c
    split at c <;> first
      | (rename_i h1; cases h1; cases c; exact op_notN pins s σ H _ _ v u Q I rx ry ⟨he, by rw [← nonV]; exact q⟩)
      | (rename_i h1; cases h1; cases c; exact op_isnot_bl pins s σ H _ _ v u Q I rx ry ⟨_, _, hd, he, q⟩)
      | (rename_i h1; cases h1)
      | cases c
  | In =>
    have lst : ∀ ds, e = .lst ds → (if (flatD d && ds.all flatD) || (plainD 60 d && plainD 60 (.lst ds)) then R.ok (ds.any fun z => deq z d) else R.no) = .ok b → wpAny (model X.prog X.w) X.A (compareOp .In v u) (EP X pins σ Q) X.xe s := fun ds ee c2 => by
      subst ee
      split at c2
      · rename_i hc
        cases c2
        obtain ⟨a, vs, ea, hl, hr⟩ := he
        by_cases hf : (flatD d && ds.all flatD) = true
        · rw [Bool.and_eq_true] at hf
          have e1 := hd.flatV hf.1
          have e2 := Reps.flatV hf.2 hr
          subst e1 e2 ea
          refine op_in_seq pins s σ H _ _ v u Q I rx ry ⟨a, _, rfl, .inl hl.sq, flatV_vOf _, ?_, ?_⟩
          · rw [List.all_map, List.all_eq_true]; intro z _; exact flatV_vOf z
          · rw [if_neg Bool.false_ne_true, inV_map hf.1 hf.2]; exact q
        · rw [Bool.eq_false_iff.mpr hf, Bool.false_or, Bool.and_eq_true] at hc
          have hl2 : ds.all (plainD 59) = true := hc.2
          exact op_inD (by omega) pins s σ H _ _ v u Q I rx ry ⟨_, _, hd.dp hc.1, Rep.dp (M := F0) (.lst ds) _ 60 hc.2 ⟨a, vs, ea, hl, hr⟩, plain_shaped hc.1, plain_shaped hc.2, by rw [any_py hc.1 59 hl2]; exact q⟩
      · cases c2
    have tup : ∀ ds, e = .tup ds → (if flatD d && ds.all flatD then R.ok (ds.any fun z => deq z d) else R.no) = .ok b → wpAny (model X.prog X.w) X.A (compareOp .In v u) (EP X pins σ Q) X.xe s := fun ds ee c2 => by
      subst ee
      split at c2
      · rename_i hf
        cases c2
        obtain ⟨a, vs, ea, hl, hr⟩ := he
        rw [Bool.and_eq_true] at hf
        have e1 := hd.flatV hf.1
        have e2 := Reps.flatV hf.2 hr
        subst e1 e2 ea
        refine op_in_seq pins s σ H _ _ v u Q I rx ry ⟨a, _, rfl, (.inr hl.sq), flatV_vOf _, ?_, ?_⟩
        · rw [List.all_map, List.all_eq_true]; intro z _; exact flatV_vOf z
        · rw [if_neg Bool.false_ne_true, inV_map hf.1 hf.2]; exact q
      · cases c2
    cases e with
    | lst ds => exact lst ds rfl c
    | tup ds => exact tup ds rfl c
    | dK ks ds =>
      have c : (match kyOf d with | some k => R.ok (memK ks k) | none => .no) = .ok b := c
      cases hk : kyOf d with
      | none => rw [hk] at c; cases c
      | some k =>
        rw [hk] at c
        cases c
        obtain ⟨a, vs, ea, ⟨_, rd⟩, l, hr⟩ := he
        have ex := kyOf_v hk hd.rep
        subst ea ex
        cases ry
        have g : DGet H a (kV k) (valV (ks.zip vs) k) := .inl ⟨_, k, rd, rfl, rfl⟩
        refine d_in (by omega) I g rx fun s' I' => ⟨.bl _, H, I', rfl, ?_⟩
        rw [mem_zip k (by rw [hr.len]; exact l)]
        exact q
    | dT ks ds =>
      cases d <;> first | cases c | skip
      rename_i es
      have c : (match kysOf es with | some k => R.ok (memK ks k) | none => .no) = .ok b := c
      cases hk : kysOf es with
      | none => rw [hk] at c; cases c
      | some k =>
        rw [hk] at c
        cases c
        obtain ⟨a, vs, ea, ⟨_, rd⟩, l, hr⟩ := he
        obtain ⟨b2, us, eb, hb, hu2⟩ := hd
        have eu := kysOf_v hk hu2
        subst ea eb eu
        cases ry
        have g : DGet H a (.ref b2) (valV (ks.zip vs) k) := .inr ⟨_, k, b2, rd, rfl, hb, rfl⟩
        refine d_in (by omega) I g rx fun s' I' => ⟨.bl _, H, I', rfl, ?_⟩
        rw [mem_zip k (by rw [hr.len]; exact l)]
        exact q
    | _ => first | cases c | (unfold cmpD at c; cases c) | (unfold repD at c; cases c) | (cases d <;> cases c)
  | NotIn =>
    have lst : ∀ ds, e = .lst ds → (if (flatD d && ds.all flatD) || (plainD 60 d && plainD 60 (.lst ds)) then R.ok (!ds.any fun z => deq z d) else R.no) = .ok b → wpAny (model X.prog X.w) X.A (compareOp .NotIn v u) (EP X pins σ Q) X.xe s := fun ds ee c2 => by
      subst ee
      split at c2
      · rename_i hc
        cases c2
        obtain ⟨a, vs, ea, hl, hr⟩ := he
        by_cases hf : (flatD d && ds.all flatD) = true
        · rw [Bool.and_eq_true] at hf
          have e1 := hd.flatV hf.1
          have e2 := Reps.flatV hf.2 hr
          subst e1 e2 ea
          refine op_notIn_seq pins s σ H _ _ v u Q I rx ry ⟨a, _, rfl, .inl hl.sq, flatV_vOf _, ?_, ?_⟩
          · rw [List.all_map, List.all_eq_true]; intro z _; exact flatV_vOf z
          · rw [if_pos rfl, inV_map hf.1 hf.2]; exact q
        · rw [Bool.eq_false_iff.mpr hf, Bool.false_or, Bool.and_eq_true] at hc
          have hl2 : ds.all (plainD 59) = true := hc.2
          exact op_notInD (by omega) pins s σ H _ _ v u Q I rx ry ⟨_, _, hd.dp hc.1, Rep.dp (M := F0) (.lst ds) _ 60 hc.2 ⟨a, vs, ea, hl, hr⟩, plain_shaped hc.1, plain_shaped hc.2, by rw [any_py hc.1 59 hl2]; exact q⟩
      · cases c2
    have tup : ∀ ds, e = .tup ds → (if flatD d && ds.all flatD then R.ok (!ds.any fun z => deq z d) else R.no) = .ok b → wpAny (model X.prog X.w) X.A (compareOp .NotIn v u) (EP X pins σ Q) X.xe s := fun ds ee c2 => by
      subst ee
      split at c2
      · rename_i hf
        cases c2
        obtain ⟨a, vs, ea, hl, hr⟩ := he
        rw [Bool.and_eq_true] at hf
        have e1 := hd.flatV hf.1
        have e2 := Reps.flatV hf.2 hr
        subst e1 e2 ea
        refine op_notIn_seq pins s σ H _ _ v u Q I rx ry ⟨a, _, rfl, (.inr hl.sq), flatV_vOf _, ?_, ?_⟩
        · rw [List.all_map, List.all_eq_true]; intro z _; exact flatV_vOf z
        · rw [if_pos rfl, inV_map hf.1 hf.2]; exact q
      · cases c2
    cases e with
    | lst ds => exact lst ds rfl c
    | tup ds => exact tup ds rfl c
    | dK ks ds =>
      have c : (match kyOf d with | some k => R.ok (!memK ks k) | none => .no) = .ok b := c
      cases hk : kyOf d with
      | none => rw [hk] at c; cases c
      | some k =>
        rw [hk] at c
        cases c
        obtain ⟨a, vs, ea, ⟨_, rd⟩, l, hr⟩ := he
        have ex := kyOf_v hk hd.rep
        subst ea ex
        cases ry
        have g : DGet H a (kV k) (valV (ks.zip vs) k) := .inl ⟨_, k, rd, rfl, rfl⟩
        refine d_notIn (by omega) I g rx fun s' I' => ⟨.bl _, H, I', rfl, ?_⟩
        rw [mem_zip k (by rw [hr.len]; exact l)]
        exact q
    | dT ks ds =>
      cases d <;> first | cases c | skip
      rename_i es
      have c : (match kysOf es with | some k => R.ok (!memK ks k) | none => .no) = .ok b := c
      cases hk : kysOf es with
      | none => rw [hk] at c; cases c
      | some k =>
        rw [hk] at c
        cases c
        obtain ⟨a, vs, ea, ⟨_, rd⟩, l, hr⟩ := he
        obtain ⟨b2, us, eb, hb, hu2⟩ := hd
        have eu := kysOf_v hk hu2
        subst ea eb eu
        cases ry
        have g : DGet H a (.ref b2) (valV (ks.zip vs) k) := .inr ⟨_, k, b2, rd, rfl, hb, rfl⟩
        refine d_notIn (by omega) I g rx fun s' I' => ⟨.bl _, H, I', rfl, ?_⟩
        rw [mem_zip k (by rw [hr.len]; exact l)]
        exact q
    | _ => first | cases c | (unfold cmpD at c; cases c) | (unfold repD at c; cases c) | (cases d <;> cases c)

/-- a binary operator, by values -/
def rBi (K : PySem.W.Frag) (Mi : AS) (op : Operator) : R2 := fun x y H Q => ∃ d e r, RepT K F0 Mi H d x ∧ RepT K F0 Mi H e y ∧ binD op d e = .ok r ∧ ∀ v H', Same H H' → FrT K Mi H H' r v → Q v H'
theorem cat_any {pins : List (Addr × Obj)} {s : Shared} {σ : L2.St} {H : Hp} {a b : Addr} {xs ys : List V} {Q : VK} (I : Inv X pins σ H s) (ha : SqL X.K H a xs) (hb : SqL X.K H b ys) (hz : xs.length + ys.length ≤ sizeLine)
    (q : ∀ p, H p = none → Q (.ref p) (upd H p (.lst (xs ++ ys)))) : wpAny (model X.prog X.w) X.A (binaryOp .Add (.ref a) (.ref b)) (EP X pins σ Q) X.xe s := by
  obtain ⟨its, r1, p1, z1⟩ := I.list ha
  obtain ⟨its2, r2, p2, z2⟩ := I.list hb
  obtain ⟨⟨cls, dd, data, sl⟩, ho, hc, n, hd⟩ := p1.isList
  obtain ⟨⟨cls2, dd2, data2, sl2⟩, ho2, hc2, n2, hd2⟩ := p2.isList
  simp only at hc hd hc2 hd2
  subst hc hd hc2 hd2
  refine concat_meets ⟨_, ho, rfl⟩ ⟨_, ho2, rfl⟩ noFill_list_add seq_list_add PySem.F.slot_list_add PySem.F.entry_list_add (PySem.F.args_list_add_2 _ _)
    (list_addW a b its.toArray its2.toArray n n2 dd dd2 sl sl2 (by rw [List.size_toArray, List.size_toArray, ← r1.length, ← r2.length]; exact hz)) ⟨ho, ho2, ?_⟩
  (have ea : its.toArray ++ its2.toArray = (its ++ its2).toArray := by simp)
  rw [ea]
  exact ⟨.ref _, _, I.lnew (t' := s.toks) (r1.append r2) (by rw [List.length_append]; exact hz), rfl, q _ I.fresh⟩
theorem op_bin {Mi : AS} {op : Operator} : OpR X (binaryOp op) (rBi X.K Mi op) := by
  (intro pins s σ H x y v u Q I rx ry h)
  obtain ⟨d, e, r, hd, he, c, q⟩ := h
  have int : ∀ i, r = .int i → Q (.int i) H := fun i ei => by subst ei; exact q _ H (Same.refl H) rfl
  unfold binD at c
  split at c
  · cases c; exact op_add pins s σ H _ _ v u Q I rx ry ⟨_, _, hd, he, int _ rfl⟩
  · cases c; exact op_sub pins s σ H _ _ v u Q I rx ry ⟨_, _, hd, he, int _ rfl⟩
  · rename_i i j
    split at c
    · rename_i hm
      cases c
      unfold mulB at hm
      simp only [Bool.or_eq_true, decide_eq_true_eq] at hm
      rcases hm with hm | hm | hm
      · exact op_mul pins s σ H _ _ v u Q I rx ry ⟨_, _, hd, he, .inl (by omega), int _ rfl⟩
      · exact op_mul pins s σ H _ _ v u Q I rx ry ⟨_, _, hd, he, .inr (by omega), int _ rfl⟩
      · exact op_mulW pins s σ H _ _ v u Q I rx ry ⟨_, _, hd, he, hm, int _ rfl⟩
    · cases c
  · rename_i i j
    split at c
    · rename_i hm
      cases c
      unfold divB at hm
      simp only [Bool.or_eq_true, Bool.and_eq_true, decide_eq_true_eq] at hm
      rcases hm with ⟨h0, hm | hm⟩
      · exact op_fdiv pins s σ H _ _ v u Q I rx ry ⟨_, _, hd, he, ⟨h0, hm⟩, int _ rfl⟩
      · exact op_fdivW pins s σ H _ _ v u Q I rx ry ⟨_, _, hd, he, ⟨h0, hm⟩, int _ rfl⟩
    · split at c
      · rename_i hm
        cases c
        unfold divN at hm
        simp only [Bool.and_eq_true, decide_eq_true_eq] at hm
        exact (opI (C := fun _ j => j < 0 ∧ j.natAbs.log2 < 9000) (g := fun i j => i.fdiv j) fun i j _ _ _ _ _ hc q => floordiv_int (by omega) q (.inl (PyProof.noPylong_of_log2 hc.2))) pins s σ H _ _ v u Q I rx ry ⟨_, _, hd, he, hm, int _ rfl⟩
      · cases c
  · split at c
    · rename_i hm; cases c; exact op_mod pins s σ H _ _ v u Q I rx ry ⟨_, _, hd, he, hm, int _ rfl⟩
    · cases c
  · split at c
    · rename_i hm
      cases c
      unfold powB at hm
      simp only [Bool.and_eq_true, decide_eq_true_eq] at hm
      exact op_pow pins s σ H _ _ v u Q I rx ry ⟨_, _, hd, he, hm, int _ rfl⟩
    · cases c
  · split at c
    · rename_i hm
      cases c
      unfold powB at hm
      simp only [Bool.and_eq_true, decide_eq_true_eq] at hm
      exact op_shl pins s σ H _ _ v u Q I rx ry ⟨_, _, hd, he, hm, int _ rfl⟩
    · cases c
  · split at c
    · rename_i hm; cases c; exact op_shr pins s σ H _ _ v u Q I rx ry ⟨_, _, hd, he, hm, int _ rfl⟩
    · cases c
  · cases c; exact op_and pins s σ H _ _ v u Q I rx ry ⟨_, _, hd, he, int _ rfl⟩
  · split at c
    · rename_i xs ys hz
      cases c
      obtain ⟨a, vs, ea, h1, h2⟩ := hd
      obtain ⟨b, us, eb, h3, h4⟩ := he
      subst ea eb
      cases rx
      cases ry
      refine cat_any I h1.sq h3.sq (by rw [h2.len, h4.len]; exact hz) fun p hp => q _ _ (same_new hp) (FrT.lst (Same.refl H) hp (Reps.app h2 h4))
    · cases c
  · split at c
    · rename_i xs ys hz
      cases c
      obtain ⟨a, vs, ea, h1, h2⟩ := hd
      obtain ⟨b, us, eb, h3, h4⟩ := he
      refine op_catA pins s σ H _ _ v u Q I rx ry ⟨a, b, vs, us, ea, eb, h1.sq, h3.sq, by rw [h2.len, h4.len]; exact hz, fun e0 => ?_, fun _ e0 => ?_, fun _ _ p hp => ?_⟩
      · refine q _ H (Same.refl H) ⟨b, us, rfl, h3, ?_⟩
        have := Reps.app h2 h4
        rw [e0] at this
        exact this
      · refine q _ H (Same.refl H) ⟨a, vs, rfl, h1, ?_⟩
        have := Reps.app h2 h4
        rw [e0, List.append_nil] at this
        exact this
      · exact q _ _ (same_new hp) (FrT.tup hp (Reps.app h2 h4))
    · cases c
  · split at c
    · rename_i hz; cases c; exact op_add_str pins s σ H _ _ v u Q I rx ry ⟨_, _, hd, he, hz, q _ H (Same.refl H) rfl⟩
    · cases c
  · cases c
theorem op_repD {Mi : AS} : OpR X (binaryOp .Mult) (fun x y H Q => ∃ d e r p vs ds, d = .lst ds ∧ x = .ref p ∧ H p = some (.lst vs) ∧ Reps X.K Mi H ds vs ∧ RepT X.K F0 Mi H e y ∧ repD d e = .ok r ∧ ∀ v H', Same H H' → FrT X.K Mi H H' r v → Q v H') := by
  (intro pins s σ H x y v u Q I rx ry h)
  obtain ⟨d, e, r, p, vs, ds, ed, ex, hp, hr, he, c, q⟩ := h
  subst ed
  cases e with
  | int k =>
    unfold repD at c
    simp only at c
    split at c
    · rename_i hz
      cases c
      refine op_rep pins s σ H _ _ v u Q I rx ry ⟨p, k, vs, ex, he, hp, hz.1, hz.2.1, by rw [hr.len]; exact hz.2.2, fun p' hp' => q _ _ (same_new hp') (FrT.lst (Same.refl H) hp' (Reps.rep hr _))⟩
    · cases c
  | _ => first | cases c | (unfold cmpD at c; cases c) | (unfold repD at c; cases c) | (cases d <;> cases c)
end
end PL

namespace PL
open L2 PyProof.Rows PySem.Spec PySem
section
variable {X : Cx}
theorem ix_dct (hu : X.A.units + 1 < cLine) : IxR X (fun x y H Q => ∃ a w, x = .ref a ∧ DGet H a y (some w) ∧ Q w H) := by
  intro ve se pn0 sh σ H x y v u Q I rx ry h hsub
  obtain ⟨a, w, ex, g, q⟩ := h
  subst ex
  (obtain rfl : v = Value.ref a := rx)
  have hT := dict_typeIs I g
  unfold subscriptTail
  refine wpAny_bind ?_
  (rw [getitemInPython_of_ne hT.not_modules])
  refine wpAny_bind (wpAny_specialOf hT PySem.F.slot_dict_getitem.lookup ?_)
  have fin : wpAny (model X.prog X.w) X.A (subscripted se false (.ref a) u) (fun r s₃ => wpAny (model X.prog X.w) X.A (letTemporaryGo ve (.ref a) r >>= fun _ => pure r) (EP X pn0 σ Q) X.xe s₃) X.xe sh := by
    rw [hsub]
    exact wpAny_operating (d_getItem hu I g ry fun w' s3 I3 rw' => wpAny_bind (wpAny_letTemporaryGo (wpAny_pure ⟨w, H, I3, rw', q⟩)))
  first
    | (exact wpAny_pure (wpAny_bind fin))
    | (exact wpAny_bind (wpAny_pure (wpAny_bind fin)))
    | exact wpAny_bind fin
theorem call_sortedDO (hcalm : X.calm = true) : CallR X (.builtin "sorted") (fun xs H Q => ∃ (a : Addr) (kvs : List (Key × V)) (ks : List Int), xs = [.ref a] ∧ Rd H a (.dK kvs) ∧ kvs.map (·.1) = ks.map Sum.inl ∧ ks.length ≤ 4000 ∧
    ∀ (zs : List Int) (p : Addr), zs.Perm ks → zs.Pairwise (· ≤ ·) → H p = none → Q (.ref p) (upd H p (.lst (zs.map V.int)))) := by
  intro pn0 sh σ H xs us Q I r q
  (obtain ⟨a, kvs, ks, ex, hd, hks, h64, q⟩ := q)
  subst ex
  obtain ⟨u, eu, rx⟩ := vals1 r
  subst eu
  cases rx
  (obtain ⟨z, lo, vs, rel, dd⟩ := dk_rd I.hok hd)
  obtain ⟨ep, hat⟩ := dd.dictAt
  (have hkeys : vs.map (·.1) = ks.map Sum.inl := rel.keys.symm.trans hks)
  have hl : (vs.length = ks.length) := by
    (have e := congrArg List.length hkeys)
    rwa [List.length_map, List.length_map] at e
  (have h16 : vs.length ≤ sizeLine := by rw [hl, sizeLine_eq]; omega)
  refine Calls.call_function_entry kind_sorted plain_sorted entry_sorted ((args_sorted1 _)) ?_
  unfold Builtin.«sorted»
  refine wpAny_bind (m := checkCount "sorted" 1 1 _) <| wpAny_pure ?_
  (refine wpAny_bind (PySem.W.kdu_collect (A := X.A.in1) (PySem.W.kdl_dict (knd := mixKind X.prog X.w) (kvs := vs) (ep := ep) lo) (I.ok.hd hcalm) hat h16 fun h' tk acc hk hacc => ?_))
  (have hal : acc.toList.length = ks.length := by rw [Array.length_toList, hacc.1, hl])
  have hI : IntsAre acc.toList ks := ints_each hal fun j v e => by
    obtain ⟨k, x, f1, f2⟩ := hacc.2 j v (by rw [← Array.getElem?_toList]; exact e)
    have f3 : (vs.map (·.1))[j]? = some k := by rw [List.getElem?_map, f1]; rfl
    rw [hkeys, List.getElem?_map] at f3
    cases f4 : ks[j]? with
    | none => rw [f4] at f3; cases f3
    | some y =>
      rw [f4] at f3
      obtain rfl : Sum.inl y = k := Option.some.inj f3
      rcases keyIs_shape (show keyIs (Sum.inl y) v = true from f2) with ⟨i, t, ek, ev⟩ | ⟨z, t, ek, ev⟩
      · cases ek
        exact ⟨y, t, rfl, ev⟩
      · cases ek
  have I1 : Inv X pn0 σ H { sh with heap := h', toks := tk } := I.kept hk
  (refine wpAny_bind (wpAny_newList ?_ (by rw [hal, sizeLine_eq]; omega)))
  have hoLs : (h'.push (seqObj "list" acc.toList.toArray 0)).get? h'.objs.size = some (seqObj "list" acc.toList.toArray 0) := Heap.get?_push_size _ rfl
  show wpAny _ _ _ _ _ { sh with heap := h'.push (seqObj "list" acc.toList.toArray 0), toks := tk }
  refine wpAny_bind (wpAny_holding (wpAny_call_entry slot_list_sort ⟨_, hoLs, rfl⟩ entry_list_sort (SrtO.list_sort_ord (s := { sh with heap := h'.push (seqObj "list" acc.toList.toArray 0), toks := tk }) SrtO.swo_int hoLs (by rw [hal, sizeLine_eq]; omega) (fun hx2 => SrtO.ints_sortable hI hx2) fun out0 hs1 hs2 => ⟨_, rfl, ?_⟩) (args_list_sort _)))
  obtain ⟨a1, a2, a3⟩ := SrtO.ints_out hI hs1 hs2
  obtain ⟨outs, hout⟩ : ∃ outs : Array Value, outs = out0.toArray := ⟨_, rfl⟩
  obtain ⟨ns', hns'⟩ : ∃ ns' : List Int, ns' = out0.map SrtO.iv := ⟨_, rfl⟩
  have a1 : IntsAre outs.toList ns' := by rw [hout, hns']; simpa using a1
  rw [← hns'] at a2 a3
  rw [← hout]
  obtain ⟨cn, hc⟩ := sortedHeap_at (vs := acc.toList) (out := outs) hoLs
  have hlen : ((ns'.map V.int).length ≤ sizeLine) := by
    rw [List.length_map, a2.length_eq, sizeLine_eq]; omega
  refine wpAny_pure ⟨_, rfl, .ref h'.objs.size, upd H h'.objs.size (.lst (ns'.map V.int)), I1.laid (t' := tk) (fun b u e => ?_) (Nat.le_refl _)
    (show ObjOk X.prog X.w _ _ _ (.lst (ns'.map V.int)) from ⟨hlen, outs.toList, cn, vals_of_ints a1, by rw [Array.toArray_toList]; exact hc⟩), rfl, q ns' _ a2 a3 (I1.hok.fresh (Nat.le_refl _))⟩
  (have hb : b < h'.objs.size := Heap.lt_size e)
  rw [sortedHeap_old (Nat.ne_of_lt hb) (by rw [size_push']; exact Nat.lt_succ_of_lt hb)]
  (exact Heap.get?_push_of_some _ e)
end
end PL

namespace PL
open L2 PyProof.Rows PySem.Spec PySem

theorem intKs_some : ∀ {ks : List Key} {ns : List Int}, intKs ks = some ns → ks = ns.map Sum.inl
  | [], ns, h => by cases h; rfl
  | .inl i :: r, ns, h => by
    have h : (intKs r).map (i :: ·) = some ns := h
    cases q : intKs r with
    | none => rw [q] at h; cases h
    | some ms =>
      rw [q] at h
      cases h
      rw [intKs_some q]; rfl
  | .inr _ :: _, ns, h => nomatch h
theorem intsOf_some : ∀ {ds : List D} {ns : List Int}, intsOf ds = some ns → ds = ns.map D.int
  | [], ns, h => by cases h; rfl
  | .int i :: r, ns, h => by
    unfold intsOf at h
    cases e : intsOf r with
    | none => (rw [e] at h; cases h)
    | some ms => rw [e] at h; cases h; rw [intsOf_some e]; rfl
  | .non :: _, _, h => by cases h
  | .bl _ :: _, _, h => by cases h
  | .str _ :: _, _, h => by cases h
  | .tup _ :: _, _, h => by cases h
  | .lst _ :: _, _, h => by cases h
  | .dK _ _ :: _, _, h => by cases h
  | .dT _ _ :: _, _, h => by cases h
  | .ex _ _ :: _, _, h => by cases h
@[simp] theorem intsOf_map : ∀ ns : List Int, intsOf (ns.map D.int) = some ns
  | [] => rfl
  | n :: ns => by rw [List.map_cons]; unfold intsOf; rw [intsOf_map ns]; rfl
theorem blsOf_some : ∀ {ds : List D} {ns : List Bool}, blsOf ds = some ns → ds = ns.map D.bl
  | [], ns, h => by cases h; rfl
  | .bl i :: r, ns, h => by
    unfold blsOf at h
    cases e : blsOf r with
    | none => (rw [e] at h; cases h)
    | some ms => rw [e] at h; cases h; rw [blsOf_some e]; rfl
  | .non :: _, _, h => by cases h
  | .int _ :: _, _, h => by cases h
  | .str _ :: _, _, h => by cases h
  | .tup _ :: _, _, h => by cases h
  | .lst _ :: _, _, h => by cases h
  | .dK _ _ :: _, _, h => by cases h
  | .dT _ _ :: _, _, h => by cases h
  | .ex _ _ :: _, _, h => by cases h
@[simp] theorem blsOf_map : ∀ ns : List Bool, blsOf (ns.map D.bl) = some ns
  | [] => rfl
  | n :: ns => by rw [List.map_cons]; unfold blsOf; rw [blsOf_map ns]; rfl
theorem maxL_spec : ∀ (ns : List Int) (m : Int), maxL m ns ∈ m :: ns ∧ ∀ y ∈ m :: ns, y ≤ maxL m ns
  | [], m => ⟨by simp [maxL], fun y hy => by simp at hy; subst hy; exact Int.le_refl _⟩
  | x :: r, m => by
    have e : ∀ k, k = (if x > m then x else m) → (k = x ∨ k = m) ∧ x ≤ k ∧ m ≤ k := fun k hk => by split at hk <;> omega
    obtain ⟨e1, e2, e3⟩ := e _ rfl
    obtain ⟨h1, h2⟩ := maxL_spec r (if x > m then x else m)
    unfold maxL
    generalize (if x > m then x else m) = k at *
    have a := h2 k (List.mem_cons_self ..)
    refine ⟨?_, fun y hy => ?_⟩
    · rcases List.mem_cons.mp h1 with e | h
      · rw [e]; rcases e1 with e | e <;> simp [e]
      · simp [h]
    · rcases List.mem_cons.mp hy with e | hy
      · omega
      · rcases List.mem_cons.mp hy with e | hy
        · omega
        · exact h2 y (List.mem_cons_of_mem _ hy)
theorem minL_spec : ∀ (ns : List Int) (m : Int), minL m ns ∈ m :: ns ∧ ∀ y ∈ m :: ns, minL m ns ≤ y
  | [], m => ⟨by simp [minL], fun y hy => by simp at hy; subst hy; exact Int.le_refl _⟩
  | x :: r, m => by
    have e : ∀ k, k = (if x < m then x else m) → (k = x ∨ k = m) ∧ k ≤ x ∧ k ≤ m := fun k hk => by split at hk <;> omega
    obtain ⟨e1, e2, e3⟩ := e _ rfl
    obtain ⟨h1, h2⟩ := minL_spec r (if x < m then x else m)
    unfold minL
    generalize (if x < m then x else m) = k at *
    have a := h2 k (List.mem_cons_self ..)
    refine ⟨?_, fun y hy => ?_⟩
    · rcases List.mem_cons.mp h1 with e | h
      · rw [e]; rcases e1 with e | e <;> simp [e]
      · simp [h]
    · rcases List.mem_cons.mp hy with e | hy
      · omega
      · rcases List.mem_cons.mp hy with e | hy
        · omega
        · exact h2 y (List.mem_cons_of_mem _ hy)
theorem insI_perm (x : Int) : ∀ l : List Int, (insI x l).Perm (x :: l)
  | [] => .refl _
  | y :: r => by
    unfold insI
    split
    · exact .refl _
    · exact ((insI_perm x r).cons y).trans (.swap x y r)
theorem sortI_perm : ∀ l : List Int, (sortI l).Perm l
  | [] => .refl _
  | x :: r => (insI_perm x (sortI r)).trans ((sortI_perm r).cons x)
theorem insI_sorted {x : Int} : ∀ {l : List Int}, l.Pairwise (· ≤ ·) → (insI x l).Pairwise (· ≤ ·)
  | [], _ => by simp [insI]
  | y :: r, h => by
    (obtain ⟨h1, h2⟩ := List.pairwise_cons.mp h)
    unfold insI
    split
    · rename_i hxy
      exact List.pairwise_cons.mpr ⟨fun z hz => by
        (rcases List.mem_cons.mp hz with e | hz)
        · subst e; exact hxy
        · exact Int.le_trans hxy (h1 z hz), h⟩
    · rename_i hxy
      refine List.pairwise_cons.mpr ⟨fun z hz => ?_, insI_sorted h2⟩
      rcases List.mem_cons.mp ((insI_perm x r).mem_iff.mp hz) with e | hz
      · subst e; omega
      · exact h1 z hz
theorem sortI_sorted : ∀ l : List Int, (sortI l).Pairwise (· ≤ ·)
  | [] => .nil
  | x :: r => insI_sorted (sortI_sorted r)
theorem sorted_uniq : ∀ {a b : List Int}, a.Perm b → a.Pairwise (· ≤ ·) → b.Pairwise (· ≤ ·) → a = b
  | [], b, p, _, _ => (List.nil_perm.mp p).symm
  | x :: a, [], p, _, _ => absurd p.symm (by intro q; exact absurd (List.nil_perm.mp q) (by simp))
  | x :: a, y :: b, p, ha, hb => by
    obtain ⟨h1, h2⟩ := List.pairwise_cons.mp ha
    obtain ⟨h3, h4⟩ := List.pairwise_cons.mp hb
    have e : x = y := by
      have m1 := p.mem_iff.mp (List.mem_cons_self (a := x) (l := a))
      have m2 := p.mem_iff.mpr (List.mem_cons_self (a := y) (l := b))
      rcases List.mem_cons.mp m1 with e | m1
      · exact e
      · rcases List.mem_cons.mp m2 with e | m2
        · exact e.symm
        · have := h3 x m1
          have := h1 y m2
          omega
    subst e
    rw [sorted_uniq p.cons_inv h2 h4]

def prD (p : Int × Int) : D := .tup [.int p.1, .int p.2]
theorem prsOf_some : ∀ {ds : List D} {ps : List (Int × Int)}, prsOf ds = some ps → ds = ps.map prD
  | [], ps, h => by cases h; rfl
  | d :: r, ps, h => by
    unfold prsOf at h
    split at h
    · rename_i e
      cases e
    · rename_i i j r' e
      cases e
      cases q : prsOf r with
      | none => rw [q] at h; cases h
      | some ms =>
        rw [q] at h
        cases h
        rw [prsOf_some q]; rfl
    · cases h
theorem prLe_iff {a b : Int × Int} : prLe a b = true ↔ a.1 < b.1 ∨ (a.1 = b.1 ∧ a.2 ≤ b.2) := by
  unfold prLe
  rw [Bool.or_eq_true, Bool.and_eq_true, decide_eq_true_eq, decide_eq_true_eq, decide_eq_true_eq]
theorem insP_perm (x : Int × Int) : ∀ l : List (Int × Int), (insP x l).Perm (x :: l)
  | [] => .refl _
  | y :: r => by
    unfold insP
    split
    · exact .refl _
    · exact ((insP_perm x r).cons y).trans (.swap x y r)
theorem sortP_perm : ∀ l : List (Int × Int), (sortP l).Perm l
  | [] => .refl _
  | x :: r => (insP_perm x (sortP r)).trans ((sortP_perm r).cons x)
theorem insP_sorted {x : Int × Int} : ∀ {l : List (Int × Int)}, l.Pairwise (fun a b => prLe a b = true) → (insP x l).Pairwise fun a b => prLe a b = true
  | [], _ => by simp [insP]
  | y :: r, h => by
    (obtain ⟨h1, h2⟩ := List.pairwise_cons.mp h)
    unfold insP
    split
    · rename_i hxy
      refine List.pairwise_cons.mpr ⟨fun z hz => ?_, h⟩
      (rcases List.mem_cons.mp hz with e | hz)
      · subst e; exact hxy
      · have a := prLe_iff.mp hxy
        have b := prLe_iff.mp (h1 z hz)
        exact prLe_iff.mpr (by omega)
    · rename_i hxy
      refine List.pairwise_cons.mpr ⟨fun z hz => ?_, insP_sorted h2⟩
      rcases List.mem_cons.mp ((insP_perm x r).mem_iff.mp hz) with e | hz
      · subst e
        have : ¬ (z.1 < y.1 ∨ (z.1 = y.1 ∧ z.2 ≤ y.2)) := fun q => hxy (prLe_iff.mpr q)
        exact prLe_iff.mpr (by omega)
      · exact h1 z hz
theorem sortP_sorted : ∀ l : List (Int × Int), (sortP l).Pairwise fun a b => prLe a b = true
  | [] => .nil
  | x :: r => insP_sorted (sortP_sorted r)
theorem pairs_uniq : ∀ {a b : List (Int × Int)}, a.Perm b → a.Pairwise (fun a b => prLe a b = true) → b.Pairwise (fun a b => prLe a b = true) → a = b
  | [], b, p, _, _ => (List.nil_perm.mp p).symm
  | x :: a, [], p, _, _ => absurd p.symm (by intro q; exact absurd (List.nil_perm.mp q) (by simp))
  | x :: a, y :: b, p, ha, hb => by
    obtain ⟨h1, h2⟩ := List.pairwise_cons.mp ha
    obtain ⟨h3, h4⟩ := List.pairwise_cons.mp hb
    have e : x = y := by
      have m1 := p.mem_iff.mp (List.mem_cons_self (a := x) (l := a))
      have m2 := p.mem_iff.mpr (List.mem_cons_self (a := y) (l := b))
      rcases List.mem_cons.mp m1 with e | m1
      · exact e
      · rcases List.mem_cons.mp m2 with e | m2
        · exact e.symm
        · have q1 := prLe_iff.mp (h3 x m1)
          have q2 := prLe_iff.mp (h1 y m2)
          exact Prod.ext (by omega) (by omega)
    subst e
    rw [pairs_uniq p.cons_inv h2 h4]
section
variable {X : Cx}
/-- sorted(xs), xs a list of pairs of ints, tracked or known -/
theorem cr_sortedQ {pins : List (Addr × Obj)} {σ : L2.St} {H : Hp} {s : Shared} {us : List Value} {Qq : VK} {a : Addr} {vl : List V} {k : V → Int × Int} (I : Inv X pins σ H s) (r : Vals [V.ref a] us) (hs : SqL X.K H a vl)
    (hx : ∀ x ∈ vl, ∃ t, x = V.ref t ∧ SqT X.K H t [.int (k x).1, .int (k x).2])
    (q : ∀ ys p, SrtO.Srtd (ltP k) ys → SrtO.Stb (ltP k) ys vl → H p = none → Qq (.ref p) (upd H p (.lst ys))) : wpAny (model X.prog X.w) X.A (call (.builtin "sorted") us) (EP X pins σ Qq) X.xe s := by
  (obtain ⟨its, rv, hl, hz⟩ := I.list hs)
  (obtain ⟨u, rfl, ru⟩ := vals1 r)
  (obtain rfl : u = Value.ref a := ru)
  obtain ⟨e1, e2⟩ := refs_back rv fun x m => (hx x m).imp fun t z => z.1
  (refine SrtO.sorted_pairsO (k := fun u => k (backV u)) hl.isList (by rw [← rv.length]; exact hz) (fun v hv => ?_) fun h' d out h1 h2 kp hd hn => ?_)
  · obtain ⟨t, rfl⟩ := e2 v hv
    have hm : V.ref t ∈ vl := by rw [e1]; exact List.mem_map.mpr ⟨_, hv, rfl⟩
    obtain ⟨t', e, ht⟩ := hx _ hm
    cases e
    obtain ⟨its2, r2, ⟨o, ho, hc, n, hd⟩, _⟩ := I.tuple ht
    (obtain ⟨u1, u2, rfl, ri, rj⟩ := vals2 r2)
    obtain ⟨t1, rfl⟩ := ri
    obtain ⟨t2, rfl⟩ := rj
    (exact ⟨t, o, t1, t2, n, rfl, ho, hc, hd⟩)
  · (have h3 : ∀ u ∈ out, ∃ a, u = Value.ref a := fun u hu => e2 u (h2.perm.mem_iff.mp hu))
    obtain ⟨n, hn⟩ := hn
    have hb : SrtO.Stb (ltP k) (out.map backV) vl := by
      rw [e1]
      (exact SrtO.Stb.map (ltP_swo k) backV h2)
    (refine ⟨.ref d, upd H d (.lst (out.map backV)), I.laid (t' := s.toks) kp hd ⟨?_, out, n, vals_back h3, hn⟩, rfl, q _ d (SrtO.srtd_map h1) hb (I.hok.fresh hd)⟩)
    rw [hb.len]
    exact hz
end
open Classical in
/-- the pair that a value stands for -/
noncomputable def kOf (K : PySem.W.Frag) (H : Hp) (x : V) : Int × Int := if h : ∃ p : Int × Int, ∃ t, x = V.ref t ∧ SqT K H t [.int p.1, .int p.2] then h.choose else (0, 0)
theorem kOf_is {X : Cx} {pins : List (Addr × Obj)} {σ : L2.St} {H : Hp} {s : Shared} (I : Inv X pins σ H s) {t : Addr} {p : Int × Int} (h : SqT X.K H t [.int p.1, .int p.2]) : kOf X.K H (.ref t) = p := by
  have hh : ∃ p : Int × Int, ∃ t', V.ref t = V.ref t' ∧ SqT X.K H t' [.int p.1, .int p.2] := ⟨p, t, rfl, h⟩
  unfold kOf
  rw [dif_pos hh]
  obtain ⟨t', e, h'⟩ := hh.choose_spec
  cases e
  have := I.tuple_inj h' h
  simp only [List.cons.injEq, V.int.injEq, and_true] at this
  exact Prod.ext this.1 this.2
theorem Reps.pairs {K : PySem.W.Frag} {M : AS} {H : Hp} : ∀ {ps : List (Int × Int)} {vs : List V}, Reps K M H (ps.map prD) vs → ∀ x ∈ vs, ∃ t p, x = V.ref t ∧ TR K H t [.int p.1, .int p.2] ∧ p ∈ ps
  | [], vs, h, x, hx => by
    have h : vs = [] := h
    subst h; cases hx
  | p :: ps, vs, ⟨v, r, e, h1, h2⟩, x, hx => by
    subst e
    (rcases List.mem_cons.mp hx with e | hx)
    · subst e
      obtain ⟨t, us, rfl, ht, hu⟩ := h1
      obtain ⟨u1, r1, rfl, g1, u2, r2, rfl, g2, rfl⟩ := hu
      obtain rfl : u1 = .int p.1 := g1
      obtain rfl : u2 = .int p.2 := g2
      exact ⟨t, p, rfl, ht, List.mem_cons_self ..⟩
    · obtain ⟨t, p', a, b, c⟩ := Reps.pairs h2 x hx
      exact ⟨t, p', a, b, List.mem_cons_of_mem _ c⟩
theorem Reps.pairs_map {X : Cx} {pins : List (Addr × Obj)} {σ : L2.St} {H : Hp} {s : Shared} {M : AS} (I : Inv X pins σ H s) : ∀ {ps : List (Int × Int)} {vs : List V}, Reps X.K M H (ps.map prD) vs → vs.map (kOf X.K H) = ps
  | [], vs, h => by
    have h : vs = [] := h
    subst h; rfl
  | p :: ps, vs, ⟨v, r, e, h1, h2⟩ => by
    subst e
    obtain ⟨t, us, rfl, ht, hu⟩ := h1
    obtain ⟨u1, r1, rfl, g1, u2, r2, rfl, g2, rfl⟩ := hu
    obtain rfl : u1 = .int p.1 := g1
    obtain rfl : u2 = .int p.2 := g2
    rw [List.map_cons, kOf_is I ht.sq, Reps.pairs_map I h2]
theorem Reps.of_pairs {K : PySem.W.Frag} {M : AS} {H : Hp} {k : V → Int × Int} : ∀ {ys : List V}, (∀ y ∈ ys, ∃ t, y = V.ref t ∧ TR K H t [.int (k y).1, .int (k y).2]) → Reps K M H ((ys.map k).map prD) ys
  | [], _ => rfl
  | y :: ys, h => by
    obtain ⟨t, e, ht⟩ := h y (List.mem_cons_self ..)
    refine ⟨y, ys, rfl, ⟨t, _, e, ht, ⟨_, _, rfl, rfl, _, _, rfl, rfl, rfl⟩⟩, Reps.of_pairs fun z hz => h z (List.mem_cons_of_mem _ hz)⟩
def B.val : B → Value
  | .len => .builtin "len" | .max => .builtin "max" | .min => .builtin "min" | .abs => .builtin "abs" | .sum => .builtin "sum" | .sorted => .builtin "sorted"
  | .list => .type "list" | .tuple => .type "tuple" | .int => .type "int" | .all => .builtin "all" | .any => .builtin "any" | .str => .type "str"
  | _ => .none
def B.name : B → Str
  | .len => "len" | .max => "max" | .min => "min" | .abs => "abs" | .sum => "sum" | .sorted => "sorted"
  | .list => "list" | .tuple => "tuple" | .int => "int" | .all => "all" | .any => "any" | .str => "str"
  | _ => ""
/-- several arguments -/
def RepTs (K : PySem.W.Frag) (Mi : AS) (H : Hp) : List D → List V → Prop
  | [], vs => vs = []
  | d :: ds, vs => ∃ v r, vs = v :: r ∧ RepT K F0 Mi H d v ∧ RepTs K Mi H ds r
theorem RepTs.same {K : PySem.W.Frag} {Mi : AS} {H H' : Hp} (s : Same H H') : ∀ {ds : List D} {vs : List V}, RepTs K Mi H ds vs → RepTs K Mi H' ds vs
  | [], _, h => h
  | _ :: _, _, ⟨v, r, e, h1, h2⟩ => ⟨v, r, e, h1.same s, RepTs.same s h2⟩
theorem RepTs.less {K : PySem.W.Frag} {Mi Mi' : AS} {H : Hp} (s : ∀ a, Mi' a → Mi a) : ∀ {ds : List D} {vs : List V}, RepTs K Mi H ds vs → RepTs K Mi' H ds vs
  | [], _, h => h
  | _ :: _, _, ⟨v, r, e, h1, h2⟩ => ⟨v, r, e, h1.less (fun _ z => z.elim) s, RepTs.less s h2⟩
/-- the functions served here -/
def B.ok : B → Bool
  | .len | .max | .min | .abs | .sum | .list | .tuple | .int | .all | .any | .sorted => true
  | _ => false
/-- served where an exception is handled -/
def B.hot : B → Bool
  | .len | .int | .abs => true
  | _ => false
/-- what comes of such a call: a list is new -/
def B.fr : B → Bool
  | .list | .sorted => true
  | _ => false
section
variable {X : Cx}
def rBu (K : PySem.W.Frag) (Mi : AS) (f : B) : List V → Hp → VK → Prop := fun xs H Q => ∃ ds r, RepTs K Mi H ds xs ∧ biD f ds = .ok r ∧ ∀ v H', Same H H' → (if f.fr = true then FrT K Mi H H' r v else RepT K Mi Mi H' r v) → Q v H'
theorem one_of {K : PySem.W.Frag} {Mi : AS} {H : Hp} {d : D} {xs : List V} (h : RepTs K Mi H [d] xs) : ∃ v, xs = [v] ∧ RepT K F0 Mi H d v := by
  obtain ⟨v, r, e, h1, h2⟩ := h
  have h2 : r = [] := h2
  subst h2
  exact ⟨v, e, h1⟩
theorem two_of {K : PySem.W.Frag} {Mi : AS} {H : Hp} {d e : D} {xs : List V} (h : RepTs K Mi H [d, e] xs) : ∃ v u, xs = [v, u] ∧ RepT K F0 Mi H d v ∧ RepT K F0 Mi H e u := by
  obtain ⟨v, r, e1, h1, h2⟩ := h
  obtain ⟨u, e2, h3⟩ := one_of h2
  subst e2
  exact ⟨v, u, e1, h1, h3⟩
theorem call_bu {Mi : AS} {f : B} (hf : f.ok = true) (hc : f.hot = false → X.calm = true) : CallR X f.val (rBu X.K Mi f) := by
  (intro pins s σ H xs us Q I rx h)
  obtain ⟨ds, r, hd, c, q⟩ := h
  have plain : ∀ v, f.fr = false → RepT X.K Mi Mi H r v → Q v H := fun v e h => q v H (Same.refl H) (by rw [e]; exact h)
  have fresh : ∀ v H', f.fr = true → Same H H' → FrT X.K Mi H H' r v → Q v H' := fun v H' e s h => q v H' s (by rw [e]; exact h)
  cases f with
  | len =>
    unfold biD at c
    split at c <;> first | contradiction | skip
    all_goals try (rename_i h1; cases h1)
    · cases c
      obtain ⟨v, rfl, a, vs, rfl, h1, h2⟩ := one_of hd
      exact call_len_seq pins s σ H _ us Q I rx ⟨a, vs, rfl, .inl h1.sq, by rw [h2.len]; exact plain _ rfl rfl⟩
    · cases c
      obtain ⟨v, rfl, a, vs, rfl, h1, h2⟩ := one_of hd
      exact call_len_seq pins s σ H _ us Q I rx ⟨a, vs, rfl, .inr h1.sq, by rw [h2.len]; exact plain _ rfl rfl⟩
    · split at c
      · rename_i hz
        cases c
        obtain ⟨v, rfl, h1⟩ := one_of hd
        exact call_len_str pins s σ H _ us Q I rx ⟨_, by rw [show v = _ from h1], hz, plain _ rfl rfl⟩
      · cases c
    · cases c
      obtain ⟨v, rfl, a, vs, rfl, ⟨_, rd⟩, l, h2⟩ := one_of hd
      obtain ⟨u, rfl, ru⟩ := vals1 rx
      cases ru
      refine d_len I rd fun t s' I' => ⟨.int _, H, I', ⟨t, rfl⟩, ?_⟩
      rw [List.length_zip, h2.len, l, Nat.min_self, ← l]
      exact plain _ rfl rfl
  | max =>
    unfold biD at c
    split at c <;> first | contradiction | skip
    all_goals try (rename_i h1; cases h1)
    · cases c
      obtain ⟨v, u, rfl, h1, h2⟩ := two_of hd
      exact call_max2 (hc rfl) pins s σ H _ us Q I rx ⟨_, _, by rw [show v = _ from h1, show u = _ from h2], plain _ rfl rfl⟩
    · rename_i xs
      obtain ⟨v, rfl, a, vs, rfl, h1, h2⟩ := one_of hd
      cases e : intsOf xs with
      | none => rw [e] at c; cases c
      | some ms =>
        rw [e] at c
        cases ms with
        | nil => cases c
        | cons n ns =>
          cases c
          rw [intsOf_some e] at h2
          have e2 := Reps.ints h2
          subst e2
          obtain ⟨m1, m2⟩ := maxL_spec ns n
          refine cr_max (hc rfl) pins s σ H _ us Q I rx ⟨a, n :: ns, rfl, h1.sq, by simp, fun m hm1 hm2 => ?_⟩
          have em : m = maxL n ns := Int.le_antisymm (m2 m hm1) (hm2 _ m1)
          rw [em]
          exact plain _ rfl rfl
  | min =>
    unfold biD at c
    split at c <;> first | contradiction | skip
    all_goals try (rename_i h1; cases h1)
    · cases c
      obtain ⟨v, u, rfl, h1, h2⟩ := two_of hd
      exact call_min2 (hc rfl) pins s σ H _ us Q I rx ⟨_, _, by rw [show v = _ from h1, show u = _ from h2], plain _ rfl rfl⟩
    · rename_i xs
      obtain ⟨v, rfl, a, vs, rfl, h1, h2⟩ := one_of hd
      cases e : intsOf xs with
      | none => rw [e] at c; cases c
      | some ms =>
        rw [e] at c
        cases ms with
        | nil => cases c
        | cons n ns =>
          cases c
          rw [intsOf_some e] at h2
          have e2 := Reps.ints h2
          subst e2
          obtain ⟨m1, m2⟩ := minL_spec ns n
          refine cr_min (hc rfl) pins s σ H _ us Q I rx ⟨a, n :: ns, rfl, h1.sq, by simp, fun m hm1 hm2 => ?_⟩
          have em : m = minL n ns := Int.le_antisymm (hm2 _ m1) (m2 m hm1)
          rw [em]
          exact plain _ rfl rfl
  | abs =>
    unfold biD at c
    split at c <;> first | contradiction | skip
    all_goals try (rename_i h1; cases h1)
    · cases c
      obtain ⟨v, rfl, h1⟩ := one_of hd
      exact call_abs pins s σ H _ us Q I rx ⟨_, by rw [show v = _ from h1], plain _ rfl rfl⟩
  | sum =>
    unfold biD at c
    split at c <;> first | contradiction | skip
    all_goals try (rename_i h1; cases h1)
    · rename_i xs
      obtain ⟨v, rfl, a, vs, rfl, h1, h2⟩ := one_of hd
      cases e : intsOf xs with
      | none => rw [e] at c; cases c
      | some ms =>
        rw [e] at c
        cases c
        rw [intsOf_some e] at h2
        have e2 := Reps.ints h2
        subst e2
        exact cr_sum (hc rfl) pins s σ H _ us Q I rx ⟨a, ms, rfl, h1.sq, plain _ rfl rfl⟩
  | list =>
    unfold biD at c
    split at c <;> first | contradiction | skip
    all_goals try (rename_i h1; cases h1)
    · rename_i ks ds
      cases c
      obtain ⟨v, rfl, a, vs, rfl, ⟨_, rd⟩, l, h2⟩ := one_of hd
      refine call_listD (hc rfl) pins s σ H _ us Q I rx ⟨a, _, rfl, rd, fun p hp => fresh _ _ rfl (same_new hp) (FrT.lst (Same.refl H) hp ?_)⟩
      have e : ((ks.zip vs).map fun kv => kV kv.1) = ks.map kV := by
        have : (ks.zip vs).map (·.1) = ks := by rw [List.map_fst_zip]; rw [h2.len]; omega
        conv => rhs; rw [← this]
        rw [List.map_map]; rfl
      rw [e]
      exact keyDs_v ks
    · cases c
      obtain ⟨v, rfl, a, vs, rfl, h1, h2⟩ := one_of hd
      exact call_list_of pins s σ H _ us Q I rx ⟨a, vs, rfl, .inl h1.sq, fun l hl => fresh _ _ rfl (same_new hl) (FrT.lst (Same.refl H) hl h2)⟩
    · cases c
      obtain ⟨v, rfl, a, vs, rfl, h1, h2⟩ := one_of hd
      exact call_list_of pins s σ H _ us Q I rx ⟨a, vs, rfl, .inr h1.sq, fun l hl => fresh _ _ rfl (same_new hl) (FrT.lst (Same.refl H) hl h2)⟩
  | tuple =>
    unfold biD at c
    split at c <;> first | contradiction | skip
    all_goals try (rename_i h1; cases h1)
    · cases c
      obtain ⟨v, rfl, a, vs, rfl, h1, h2⟩ := one_of hd
      exact call_tuple_of pins s σ H _ us Q I rx ⟨a, vs, rfl, .inl ⟨h1.sq, fun l hl => q _ _ (same_new hl) (FrT.tup (H := H) hl h2)⟩⟩
    · cases c
      obtain ⟨v, rfl, a, vs, rfl, h1, h2⟩ := one_of hd
      exact call_tuple_of pins s σ H _ us Q I rx ⟨a, vs, rfl, .inr ⟨h1.sq, q _ _ (Same.refl H) ⟨a, vs, rfl, h1, h2⟩⟩⟩
  | int =>
    unfold biD at c
    split at c <;> first | contradiction | skip
    all_goals try (rename_i h1; cases h1)
    · rename_i b
      cases c
      obtain ⟨v, rfl, h1⟩ := one_of hd
      exact call_int1 pins s σ H _ us Q I rx (.inr ⟨b, by rw [show v = _ from h1], by have := plain (.int (b2i b)) rfl rfl; unfold b2i at this; exact this⟩)
    · cases c
      obtain ⟨v, rfl, h1⟩ := one_of hd
      exact call_int1 pins s σ H _ us Q I rx (.inl ⟨_, by rw [show v = _ from h1], plain _ rfl rfl⟩)
  | all =>
    unfold biD at c
    split at c <;> first | contradiction | skip
    all_goals try (rename_i h1; cases h1)
    · rename_i xs
      obtain ⟨v, rfl, a, vs, rfl, h1, h2⟩ := one_of hd
      cases e : blsOf xs with
      | none => rw [e] at c; cases c
      | some ms =>
        rw [e] at c
        cases c
        rw [blsOf_some e] at h2
        have e2 := Reps.bls h2
        subst e2
        exact cr_all (hc rfl) pins s σ H _ us Q I rx ⟨a, ms, rfl, h1.sq, plain _ rfl rfl⟩
  | any =>
    unfold biD at c
    split at c <;> first | contradiction | skip
    all_goals try (rename_i h1; cases h1)
    · rename_i xs
      obtain ⟨v, rfl, a, vs, rfl, h1, h2⟩ := one_of hd
      cases e : blsOf xs with
      | none => rw [e] at c; cases c
      | some ms =>
        rw [e] at c
        cases c
        rw [blsOf_some e] at h2
        have e2 := Reps.bls h2
        subst e2
        exact cr_any (hc rfl) pins s σ H _ us Q I rx ⟨a, ms, rfl, h1.sq, plain _ rfl rfl⟩
  | sorted =>
    unfold biD at c
    split at c <;> first | contradiction | skip
    all_goals try (rename_i h1; cases h1)
    · rename_i ks ds
      obtain ⟨v, rfl, a, vs, rfl, ⟨_, rd⟩, l, h2⟩ := one_of hd
      cases e : intKs ks with
      | none => rw [e] at c; cases c
      | some ns =>
        rw [e] at c
        dsimp only at c
        split at c
        · rename_i hz
          cases c
          have ek : (ks.zip vs).map (·.1) = ns.map Sum.inl := by
            rw [List.map_fst_zip]
            · exact intKs_some e
            · rw [h2.len]; omega
          refine call_sortedDO (hc rfl) pins s σ H _ us Q I rx ⟨a, _, ns, rfl, rd, ek, hz, fun ns' p p1 p2 hp => ?_⟩
          have en : ns' = sortI ns := sorted_uniq (p1.trans (sortI_perm ns).symm) p2 (sortI_sorted ns)
          subst en
          exact fresh _ _ rfl (same_new hp) (FrT.lst (Same.refl H) hp Reps.of_ints)
        · cases c
    · rename_i xs
      obtain ⟨v, rfl, a, vs, rfl, h1, h2⟩ := one_of hd
      cases e : intsOf xs with
      | some ms =>
        rw [e] at c
        simp only at c
        split at c
        · cases c
          rw [intsOf_some e] at h2
          have e2 := Reps.ints h2
          subst e2
          refine cr_sortedI pins s σ H _ us Q I rx ⟨a, ms, rfl, h1.sq, fun ns' p p1 p2 hp => ?_⟩
          have en : ns' = sortI ms := sorted_uniq (p1.trans (sortI_perm ms).symm) p2 (sortI_sorted ms)
          subst en
          exact fresh _ _ rfl (same_new hp) (FrT.lst (Same.refl H) hp Reps.of_ints)
        · cases c
      | none =>
        rw [e] at c
        dsimp only at c
        cases e2 : prsOf xs with
        | none => rw [e2] at c; cases c
        | some ps =>
          rw [e2] at c
          dsimp only at c
          split at c
          · cases c
            rw [prsOf_some e2] at h2
            have hk : ∀ x ∈ vs, ∃ t, x = V.ref t ∧ TR X.K H t [.int (kOf X.K H x).1, .int (kOf X.K H x).2] := fun x hx => by
              obtain ⟨t, p, rfl, ht, _⟩ := Reps.pairs h2 x hx
              exact ⟨t, rfl, by rw [kOf_is I ht.sq]; exact ht⟩
            have hm := Reps.pairs_map I h2
            refine cr_sortedQ (k := kOf X.K H) I rx h1.sq (fun x hx => let ⟨t, e, ht⟩ := hk x hx; ⟨t, e, ht.sq⟩) fun ys p p1 p2 hp => ?_
            have ey : ys.map (kOf X.K H) = sortP ps := by
              refine pairs_uniq (((p2.perm.map _).trans (by rw [hm])).trans (sortP_perm ps).symm) (List.pairwise_map.mpr (p1.imp fun {x y} z => ?_)) (sortP_sorted ps)
              have z := SrtO.lexB_no.mp z
              exact prLe_iff.mpr (by omega)
            have hy : ∀ y ∈ ys, ∃ t, y = V.ref t ∧ TR X.K H t [.int (kOf X.K H y).1, .int (kOf X.K H y).2] := fun y hy => hk y (p2.perm.mem_iff.mp hy)
            have rp : Reps X.K Mi H ((sortP ps).map prD) ys := by
              rw [← ey]
              exact Reps.of_pairs hy
            exact fresh _ _ rfl (same_new hp) (FrT.lst (Same.refl H) hp rp)
          · cases c
  | _ => cases hf
end

section
variable {X : Cx}
theorem atI_rep {K : PySem.W.Frag} {M : AS} {H : Hp} {ds : List D} {vs : List V} {i : Int} {d : D} (r : Reps K M H ds vs) (h : atI ds i = some d) : ∃ v, atI vs i = some v ∧ Rep K M H d v := by
  unfold atI at h ⊢
  rw [r.len]
  cases e : ixN ds.length i with
  | none => (rw [e] at h; cases h)
  | some j =>
    rw [e] at h
    exact r.get h
def rSb (K : PySem.W.Frag) (Mi : AS) : R2 := fun x y H Q => ∃ d e r, RepT K F0 Mi H d x ∧ RepT K F0 Mi H e y ∧ subD d e = .ok r ∧ ∀ v, Rep K Mi H r v → Q v H
theorem ix_dK {Mi : AS} (hu : X.A.units + 1 < cLine) {ve se : Expr} {pins : List (Addr × Obj)} {s : Shared} {σ : L2.St} {H : Hp} {x y : V} {v u : Value} {Q : VK} {ks : List Key} {ds : List D} {e r : D} (I : Inv X pins σ H s) (rx : RelV x v) (ry : RelV y u)
    (hd : RepT X.K F0 Mi H (.dK ks ds) x) (he : RepT X.K F0 Mi H e y) (c : (match kyOf e with | some k => (match lookK ks ds k with | some v => R.ok v | none => .no) | none => .no) = .ok r) (q : ∀ v, Rep X.K Mi H r v → Q v H)
    (hsub : subscripted se false v u = operate [v, u] (getItem v u)) : wpAny (model X.prog X.w) X.A (subscriptTail ve se v u) (EP X pins σ Q) X.xe s := by
  cases hk : kyOf e with
  | none => rw [hk] at c; cases c
  | some k =>
    rw [hk] at c
    dsimp only at c
    cases hl : lookK ks ds k with
    | none => rw [hl] at c; cases c
    | some z =>
      rw [hl] at c
      cases c
      obtain ⟨a, vs, ea, ⟨_, rd⟩, l, hr⟩ := hd
      have ey := kyOf_v (M := F0) hk ((he.less (Mt' := F0) (Mi' := F0) (fun _ z => z) fun _ z => z.elim).rep)
      subst ea ey
      obtain ⟨w, hw, rw'⟩ := (val_rep k l hr).1 _ hl
      exact ix_dct hu ve se pins s σ H _ _ v u Q I rx ry ⟨a, w, rfl, .inl ⟨_, k, rd, rfl, hw.symm⟩, q w rw'⟩ hsub
theorem ix_dT {Mi : AS} (hu : X.A.units + 1 < cLine) {ve se : Expr} {pins : List (Addr × Obj)} {s : Shared} {σ : L2.St} {H : Hp} {x y : V} {v u : Value} {Q : VK} {ks : List (List Key)} {ds es : List D} {r : D} (I : Inv X pins σ H s) (rx : RelV x v) (ry : RelV y u)
    (hd : RepT X.K F0 Mi H (.dT ks ds) x) (he : RepT X.K F0 Mi H (.tup es) y) (c : (match kysOf es with | some k => (match lookK ks ds k with | some v => R.ok v | none => .no) | none => .no) = .ok r) (q : ∀ v, Rep X.K Mi H r v → Q v H)
    (hsub : subscripted se false v u = operate [v, u] (getItem v u)) : wpAny (model X.prog X.w) X.A (subscriptTail ve se v u) (EP X pins σ Q) X.xe s := by
  cases hk : kysOf es with
  | none => rw [hk] at c; cases c
  | some k =>
    rw [hk] at c
    dsimp only at c
    cases hl : lookK ks ds k with
    | none => rw [hl] at c; cases c
    | some z =>
      rw [hl] at c
      cases c
      obtain ⟨a, vs, ea, ⟨_, rd⟩, l, hr⟩ := hd
      obtain ⟨b2, us, eb, hb, hu2⟩ := he
      have eu := kysOf_v hk hu2
      subst ea eb eu
      obtain ⟨w, hw, rw'⟩ := (val_rep k l hr).1 _ hl
      exact ix_dct hu ve se pins s σ H _ _ v u Q I rx ry ⟨a, w, rfl, .inr ⟨_, k, b2, rd, rfl, hb, hw.symm⟩, q w rw'⟩ hsub
theorem ix_sub {Mi : AS} (hu : X.A.units + 1 < cLine) : IxR X (rSb X.K Mi) := by
  intro ve se pins s σ H x y v u Q I rx ry h hsub
  obtain ⟨d, e, r, hd, he, c, q⟩ := h
  unfold subD at c
  split at c
  · rename_i xs i
    obtain ⟨a, vs, ea, h1, h2⟩ := hd
    cases e2 : atI xs i with
    | none => rw [e2] at c; cases c
    | some z =>
      rw [e2] at c
      cases c
      obtain ⟨w, hw, rw'⟩ := atI_rep h2 e2
      exact ix_list ve se pins s σ H x y v u Q I rx ry ⟨a, vs, i, w, ea, he, h1.sq, hw, q w rw'⟩ hsub
  · rename_i xs i
    obtain ⟨a, vs, ea, h1, h2⟩ := hd
    cases e2 : atI xs i with
    | none => rw [e2] at c; cases c
    | some z =>
      rw [e2] at c
      cases c
      obtain ⟨w, hw, rw'⟩ := atI_rep h2 e2
      exact ix_tup ve se pins s σ H x y v u Q I rx ry ⟨a, vs, i, w, ea, he, h1.sq, hw, q w rw'⟩ hsub
  · rename_i z i
    split at c
    · rename_i hz
      cases e2 : atI z.cps.toList i with
      | none => rw [e2] at c; cases c
      | some ch =>
        rw [e2] at c
        cases c
        exact ix_str ve se pins s σ H x y v u Q I rx ry ⟨z, i, ch, hd, he, hz, e2, q _ rfl⟩ hsub
    · cases c
  · exact ix_dK hu I rx ry hd he c q hsub
  · exact ix_dT hu I rx ry hd he c q hsub
  · cases c
theorem cutV_cut (xs : List V) (lo hi : Option Int) : cutV xs lo hi = cut xs lo hi := rfl
theorem cut_rep {K : PySem.W.Frag} {M : AS} {H : Hp} {ds : List D} {vs : List V} {lo hi : Option Int} (r : Reps K M H ds vs) : Reps K M H (cut ds lo hi) (cut vs lo hi) := by
  unfold cut
  rw [r.len]
  exact Reps.take _ (Reps.drop _ r)
def rSc (K : PySem.W.Frag) (Mi : AS) : V → Option Int → Option Int → Hp → VK → Prop := fun x lo hi H Q => ∃ d r, RepT K F0 Mi H d x ∧ slcD d lo hi = .ok r ∧ ∀ v H', Same H H' → FrT K Mi H H' r v → Q v H'
theorem sl_slc {Mi : AS} : SlR X (rSc X.K Mi) := by
  (intro pins s σ H x v vl vu lo hi sl Q I rx hs pl pu h)
  obtain ⟨d, r, hd, c, q⟩ := h
  unfold slcD at c
  split at c
  · rename_i xs
    cases c
    obtain ⟨a, vs, ea, h1, h2⟩ := hd
    exact sl_list pins s σ H x v vl vu lo hi sl Q I rx hs pl pu ⟨a, vs, ea, h1.sq, fun p hp => q _ _ (same_new hp) (by rw [cutV_cut]; exact FrT.lst (Same.refl H) hp (cut_rep h2))⟩
  · rename_i xs
    cases c
    obtain ⟨a, vs, ea, h1, h2⟩ := hd
    refine sl_tupA pins s σ H x v vl vu lo hi sl Q I rx hs pl pu ⟨a, vs, ea, h1.sq, fun hw => ?_, fun _ p hp => q _ _ (same_new hp) (by rw [cutV_cut]; exact FrT.tup hp (cut_rep h2))⟩
    refine q _ _ (Same.refl H) ⟨a, vs, rfl, h1, ?_⟩
    have e : cut xs lo hi = xs := by
      unfold cut
      rw [← h2.len, hw.1, hw.2, List.drop_zero, Nat.sub_zero, h2.len, List.take_length]
    rw [e]
    exact h2
  · cases c
theorem tyx_of {K : PySem.W.Frag} {H : Hp} {d : D} {x : V} (h : RepT K F0 F0 H d x) : match d with
    | .non => TyX K H x (.type "NoneType")
    | .bl _ => TyX K H x (.type "bool")
    | .int _ => TyX K H x (.type "int")
    | .str _ => TyX K H x (.type "str")
    | .tup _ => TyX K H x (.type "tuple")
    | .lst _ => TyX K H x (.type "list")
    | .dK _ _ => TyX K H x (.type "dict")
    | _ => True := by
  cases d with
  | non => have h : x = .non := h; subst h; exact .base .non
  | bl b => have h : x = .bl b := h; subst h; exact .base (.bl b)
  | int b => have h : x = .int b := h; subst h; exact .base (.int b)
  | str b => have h : x = .str b := h; subst h; exact .base (.str b)
  | tup ds =>
    obtain ⟨a, vs, ea, h1, h2⟩ := h
    subst ea
    exact .base (.tup h1)
  | lst ds =>
    obtain ⟨a, vs, ea, h1, h2⟩ := h
    subst ea
    rcases h1.sq with (h1 | ⟨o, h1⟩) | ⟨o, its, n, h1, h3, _⟩
    · exact .base (.lst h1)
    · exact .base (.frz h1)
    · exact .kList h1 h3
  | dK ks ds =>
    obtain ⟨a, vs, ea, ⟨_, h1⟩, _⟩ := h
    subst ea
    rcases h1 with h1 | ⟨o, h1⟩
    · exact .base (.dK h1)
    · exact .fDict h1
  | _ => trivial
theorem call_isD : CallR X (.builtin "isinstance") (fun xs H Q => ∃ d x t b, xs = [x, .ty t] ∧ RepT X.K F0 F0 H d x ∧ isiD d t = .ok b ∧ Q (.bl b) H) := by
  (intro pins s σ H xs us Q I rx h)
  obtain ⟨d, x, t, b, rfl, hd, c, q⟩ := h
  have ty := tyx_of hd
  have go : ∀ T : String, TyX X.K H x (.type T) → kitB T t = some b → wpAny (model X.prog X.w) X.A (call (.builtin "isinstance") us) (EP X pins σ Q) X.xe s := fun T h1 h2 =>
    call_isi pins s σ H _ us Q I rx ⟨x, .ty t, .type T, .type t, b, rfl, .ty t, h1, kit_ty h2, q⟩
  cases d with
  | non =>
    unfold isiD at c
    simp only at c
    split at c
    · rename_i ht; cases c
      rcases ht with rfl | rfl | rfl | rfl | rfl <;> exact go _ ty (by decide +kernel)
    · cases c
  | bl z =>
    unfold isiD at c
    simp only at c
    split at c
    · rename_i ht; cases c
      rcases ht with rfl | rfl <;> exact go _ ty (by decide +kernel)
    · split at c
      · rename_i ht; cases c
        rcases ht with rfl | rfl | rfl <;> exact go _ ty (by decide +kernel)
      · cases c
  | int z =>
    unfold isiD at c
    simp only at c
    split at c
    · rename_i ht; cases c; subst ht; exact go _ ty (by decide +kernel)
    · split at c
      · rename_i ht; cases c
        rcases ht with rfl | rfl | rfl | rfl <;> exact go _ ty (by decide +kernel)
      · cases c
  | str z =>
    unfold isiD at c
    simp only at c
    split at c
    · rename_i ht; cases c; subst ht; exact go _ ty (by decide +kernel)
    · split at c
      · rename_i ht; cases c
        rcases ht with rfl | rfl | rfl | rfl <;> exact go _ ty (by decide +kernel)
      · cases c
  | tup z =>
    unfold isiD at c
    simp only at c
    split at c
    · rename_i ht; cases c; subst ht; exact go _ ty (by decide +kernel)
    · split at c
      · rename_i ht; cases c
        rcases ht with rfl | rfl | rfl | rfl <;> exact go _ ty (by decide +kernel)
      · cases c
  | lst z =>
    unfold isiD at c
    simp only at c
    split at c
    · rename_i ht; cases c; subst ht; exact go _ ty (by decide +kernel)
    · split at c
      · rename_i ht; cases c
        rcases ht with rfl | rfl | rfl | rfl <;> exact go _ ty (by decide +kernel)
      · cases c
  | dK ks z =>
    unfold isiD at c
    simp only at c
    split at c
    · rename_i ht; cases c
      rcases ht with rfl | rfl | rfl | rfl | rfl <;> exact go _ ty (by decide +kernel)
    · cases c
  | _ => unfold isiD at c; cases c
end
end PL

namespace PL
open L2 PyProof.Rows PySem.Spec PySem
section
variable {prog : Program} {w : World} {Ar : Around} {Ex : Value → Shared → Prop} {sh : Shared}
theorem init_rev {itr ls Nw : Addr} {items : Array Value} {R' : Result → Shared → Prop} (hhd : Ar.handled = none) (hitr : sh.heap.IsRevIter itr ls ((items.size : Int) - 1)) (hls : sh.heap.IsList ls items) (hdif : ls ≠ itr) (hsz0 : items.size ≤ sizeLine)
    (hNi : Nw ≠ itr) (hNl : Nw ≠ ls) (hNw : sh.heap.get? Nw = some { cls := .type "list", data := .seq #[] })
    (hR : ∀ (h' : Heap) (tk : Nat) (ac : Array Value) (c' : Nat), (∀ b o, b ≠ itr → b ≠ Nw → sh.heap.get? b = some o → h'.get? b = some o) → h'.get? Nw = some { cls := .type "list", dict := none, data := .seq ac c', slots := #[] } →
      ItemsOf (fun i v => items[items.size - 1 - i]? = some v) ac items.size → R' (.ok (.ret .none)) { sh with heap := h', toks := tk }) :
    wpAny (model prog w) Ar.in1 (Builtin.«list.__init__» ⟨[.ref Nw, .ref itr], []⟩)
      (fun fin s' => match fin with | .done f => R' (.ok f) s' | .again c' => c'.quiet = true ∧ codeAny (model prog w) Ar c' R' s') (fun e s' => R' (.error e) s') sh := by
  have Wk0 := (Walks.listRev (prog := prog) (w := w) (A := Ar.in1) hhd itr ls hdif items).toS
  have hSf : Nw ∉ [itr, ls] := by simp only [List.mem_cons, List.not_mem_nil, or_false, not_or]; exact ⟨hNi, hNl⟩
  show wpAny _ Ar.in1 (do let old ← Builtin.List.listItems (.ref Nw); Builtin.List.listUpdate (.ref Nw) (fun _ => #[]); letGo old.toList.reverse; Builtin.List.listExtendWith (.ref Nw) (.ref itr) .none) _ _ sh
  refine wpAny_bind ?_
  unfold Builtin.List.listItems
  refine wpAny_bind (wpAny_seqItems hNw rfl (wpAny_pure ?_))
  show wpAny _ Ar.in1 (updateSeq Nw (fun _ => #[]) >>= fun _ => letGo (#[] : Array Value).toList.reverse >>= fun _ => Builtin.List.listExtendWith (.ref Nw) (.ref itr) .none) _ _ sh
  refine wpAny_bind (wpAny_updateSeq hNw rfl ?_)
  have hNw1 := Heap.get?_update_self (Obj.mapSeq (fun _ => (#[] : Array Value))) hNw rfl
  have othr : ∀ b o, b ≠ Nw → sh.heap.get? b = some o → (sh.heap.update Nw (Obj.mapSeq (fun _ => (#[] : Array Value)))).get? b = some o :=
    fun b0 o0 hb0 eq0 => (Heap.get?_update_other _ _ (Ne.symm hb0)).trans eq0
  refine wpAny_bind <| wpAny_letGo ?_
  have hit1 : (sh.heap.update Nw (Obj.mapSeq (fun _ => (#[] : Array Value)))).IsRevIter itr ls ((items.size : Int) - 1) := hitr.at fun o e => othr _ o (Ne.symm hNi) e
  have hl1 : (sh.heap.update Nw (Obj.mapSeq (fun _ => (#[] : Array Value)))).IsList ls items := hls.at fun o e => othr _ o (Ne.symm hNl) e
  have hTy : ({ sh with heap := sh.heap.update Nw (Obj.mapSeq (fun _ => (#[] : Array Value))) } : Shared).TypeIs (.ref itr) "list_reverseiterator" := Heap.IsRevIter.typeIs (s := { sh with heap := sh.heap.update Nw (Obj.mapSeq (fun _ => (#[] : Array Value))) }) hit1
  have hx1 : Builtin.List.listSameRef (.ref Nw) (.ref itr) = false := by simp [Builtin.List.listSameRef, hNi]
  show wpAny _ Ar.in1 (Builtin.List.listExtendWith (.ref Nw) (.ref itr) .none) _ _ _
  (unfold Builtin.List.listExtendWith)
  refine wpAny_bind (wpAny_typeOf hTy ?_)
  rw [if_neg (by rw [hx1]; decide)]
  refine wpAny_bind (wpAny_pyIter_revIter (s := { sh with heap := sh.heap.update Nw (Obj.mapSeq (fun _ => (#[] : Array Value))) }) hit1 ?_)
  refine wpAny_bind <| wpAny_holding ?_
  (unfold Builtin.List.listLengthHint)
  refine wpAny_bind (wpAny_specialOf hTy RT.nolen_lri ?_)
  show wpAny _ Ar.in1 (specialOf (Value.ref itr) (Str.ofString "__length_hint__") >>= _) _ _ _
  refine wpAny_bind (wpAny_specialOf hTy RT.hint_lri ?_)
  generalize hidn : ("list_reverseiterator.__length_hint__" : String) = idn
  wp_delta
  rw [show splitId idn = some ("list_reverseiterator", "__length_hint__") from by subst hidn; decide +kernel]
  subst hidn
  refine wpAny_bind (wpAny_isInstance (b := true) hTy (by rw [isSubtype_type]; kernel_rfl) ?_)
  refine wpAny_pure ?_
  rw [if_neg (by decide)]
  have e00 : ((items.size : Nat) : Int) - 1 - ((0 : Nat) : Int) = (items.size : Int) - 1 := by omega
  refine wpAny_pure ⟨plainId_quiet F.plain_extend_loop _, codeAny_extend_loopS Wk0 hsz0 _ hSf _ items.size 0 _ _ _ rfl (Nat.zero_le _) ⟨Nat.zero_le _, by rw [e00]; exact hit1, hl1⟩ hNw1 (ItemsOf.nil _) fun s' acc' c' hm hS' hacc => ?_⟩
  rw [Moved.eq_with hm]
  refine hR s'.heap s'.toks acc' c' (fun b o hb hbS e => hm.heap b o (fun hmm => ?_) (othr b o hbS e)) hS' hacc
  rcases List.mem_cons.mp hmm with e' | hmm
  · exact hbS e'
  · exact hb (List.mem_singleton.mp hmm)
theorem call_list_rev {itr ls : Addr} {items : Array Value} {Q : Value → Shared → Prop} (hhd : Ar.handled = none) (hitr : sh.heap.IsRevIter itr ls ((items.size : Int) - 1)) (hls : sh.heap.IsList ls items) (hdif : ls ≠ itr) (hsz0 : items.size ≤ sizeLine)
    (hQ : ∀ (h' : Heap) (tk : Nat) (ac : Array Value) (c' : Nat), (∀ b o, b ≠ itr → sh.heap.get? b = some o → h'.get? b = some o) → h'.get? sh.heap.objs.size = some { cls := .type "list", dict := none, data := .seq ac c', slots := #[] } →
      ItemsOf (fun i v => items[items.size - 1 - i]? = some v) ac items.size → Q (.ref sh.heap.objs.size) { sh with heap := h', toks := tk }) :
    wpAny (model prog w) Ar (call (.type "list") [.ref itr]) Q Ex sh := by
  obtain ⟨oit, hoit, _⟩ := id hitr
  obtain ⟨ols, hols, _⟩ := id hls
  have hNi : sh.heap.objs.size ≠ itr := Nat.ne_of_gt (Heap.lt_size hoit)
  have hNl : sh.heap.objs.size ≠ ls := Nat.ne_of_gt (Heap.lt_size hols)
  refine callType_codes (Q₁ := fun ob0 s₁ => ob0 = .ref sh.heap.objs.size ∧ s₁ = { sh with heap := sh.heap.push { cls := .type "list", data := .seq #[] } }) F.called_list (F.typeCall_list_1 _) F.entry_list_init
    (code_list_new _ ⟨rfl, rfl⟩) fun ob0 s₁ h₁ => ?_
  obtain ⟨rfl, rfl⟩ := h₁
  have hNw : (sh.heap.push { cls := .type "list", data := .seq #[] }).get? sh.heap.objs.size = some { cls := .type "list", data := .seq #[] } := Heap.get?_push_size _ rfl
  refine ⟨⟨_, hNw, rfl⟩, F.args_list_init_2 _ _, init_rev (sh := { sh with heap := sh.heap.push { cls := .type "list", data := .seq #[] } }) (Ar := Ar.in1) hhd (hitr.at fun o e => Heap.get?_push_of_some _ e) (hls.push _) hdif hsz0 hNi hNl hNw fun h' tk ac c' hk hS' hi => ⟨rfl, ?_⟩⟩
  exact hQ h' tk ac c' (fun b o hb e => hk b o hb (Nat.ne_of_lt (Heap.lt_size e)) (Heap.get?_push_of_some _ e)) hS' hi
end
section
variable {X : Cx}
def tLstRev (K : PySem.W.Frag) (te : TE) : TE := fun σ H Q => te σ H fun v Ha => ∃ (ad : Addr) (vs0 : List V), v = .ref ad ∧ SqL K Ha ad vs0 ∧ ∀ q, Ha q = none → Q (.ref q) (upd Ha q (.lst vs0.reverse))
theorem pe_lstRev {e : Expr} {te : TE} {p p2 pos ps2 : Pos} (hc : X.calm = true) (hg : Gl X "list") (hm : X.mg "list" = none) (hg2 : Gl X "reversed") (hm2 : X.mg "reversed" = none) (he : PE X e te)
    (hst : starEach [e] X.env = (false, eval e X.env) :: starEach [] X.env)
    (hst2 : starEach [.Call (.Name "reversed" p2) [e] [] ps2] X.env = (false, eval (.Call (.Name "reversed" p2) [e] [] ps2) X.env) :: starEach [] X.env := by rfl) :
    PE X (.Call (.Name "list" p) [.Call (.Name "reversed" p2) [e] [] ps2] [] pos) (tLstRev X.K te) := by
  refine ⟨fun pn0 sh σ H Q I h => ?_⟩
  refine Call_ (ld_blt I hg hm boot_list (PyProof.Rows.callWith_type1 (args_cons (Call_ (ld_blt I hg2 hm2 PyProof.Rows.boot_reversed (PyProof.Rows.callWith_type1 (args_cons (thn (he.run pn0 sh σ H _ I h) fun uu s1 ⟨v, Ha, Ia, r1, qq⟩ => args_nil ?_) hst) hst rfl))) hst2) hst2 rfl))
  obtain ⟨ad, vs0, evv, hq, q⟩ := qq
  subst evv
  obtain rfl : uu = Value.ref ad := r1
  obtain ⟨its0, rvl, p', hz⟩ := Ia.list hq
  refine call_reversed_list p'.isList <| args_nil ?_
  have kp0 : ∀ b o, s1.heap.get? b = some o → (s1.heap.push (revObj ad ((its0.toArray.size : Int) - 1))).get? b = some o := fun b o e => Heap.get?_push_of_some _ e
  have Ib : Inv X pn0 σ Ha { s1 with heap := s1.heap.push (revObj ad ((its0.toArray.size : Int) - 1)) } := Ia.kept (t' := s1.toks) kp0
  obtain ⟨f0, f1, f2, f3, f4, f5⟩ := Ia.fpOk (H' := Ha) (b := s1.heap.objs.size) (Nat.le_refl _) (Ia.hok.fresh (Nat.le_refl _))
  have hls := p'.isList
  obtain ⟨ols, hols, _⟩ := id hls
  have hdif : ad ≠ s1.heap.objs.size := Nat.ne_of_lt (Heap.lt_size hols)
  have hsz0 : its0.toArray.size ≤ sizeLine := by rw [List.size_toArray, ← rvl.length]; exact hz
  refine call_list_rev (sh := { s1 with heap := s1.heap.push (revObj ad ((its0.toArray.size : Int) - 1)) }) (Ia.ok.hd hc) ⟨_, Heap.get?_push_size _ rfl, rfl, rfl⟩ (hls.push _) hdif hsz0 fun h' tk ac c' hk hNw hi => ?_
  have fp := Ia.fpOk (H' := Ha) (b := s1.heap.objs.size) (Nat.le_refl _) (Ia.hok.fresh (Nat.le_refl _))
  refine ⟨.ref (s1.heap.push (revObj ad ((its0.toArray.size : Int) - 1))).objs.size, upd Ha (s1.heap.push (revObj ad ((its0.toArray.size : Int) - 1))).objs.size (.lst vs0.reverse), ?_, rfl, q _ (Ib.hok.fresh (Nat.le_refl _))⟩
  refine Ib.turnedNew (t' := tk) (ch := [s1.heap.objs.size]) (fun b o hb e => hk b o (fun z => hb (List.mem_singleton.mpr z)) e) (fun b hb => by rw [List.mem_singleton.mp hb]; exact fp) (Nat.le_refl _) ?_
  exact ⟨by rw [List.length_reverse]; exact hz, ac.toList, c', RT.vals_rev rvl hi, by rw [Array.toArray_toList]; exact hNw⟩
end
end PL

namespace PL
open L2 PyProof.Rows PySem.Spec PySem
section
variable {P : Program} {w : World} {Ar : Around} {Ex : Value → Shared → Prop} {sh : Shared} {a : Addr}
theorem boot_sorted0 : bootBuiltins "sorted" = some (.builtin "sorted") := by decide +kernel
theorem call_set_listO {ls : Addr} {items : Array Value} (ns : List Int) {Qq : Value → Shared → Prop} (hhd : Ar.handled = none) (hls : sh.heap.IsList ls items) (hitm : IntsAre items.toList ns) (hbd : ns.length + 1 < scanBound)
    (hk1 : ∀ (h' : Heap) (tk0 cn : Nat), SetR w h' sh.heap.objs.size (fun j => decide (j ∈ ns)) cn → cn ≤ ns.length → (∀ b o, sh.heap.get? b = some o → h'.get? b = some o) → Qq (.ref sh.heap.objs.size) { sh with heap := h', toks := tk0 }) :
    wpAny (model P w) Ar (call (.type "set") [.ref ls]) Qq Ex sh := by
  have hsz : items.size = ns.length := by
    have qq0 := IntsAre.length hitm
    rw [Array.length_toList] at qq0
    exact qq0
  obtain ⟨cn, tl0, hmr⟩ := F.called_set.mro
  have hmd := F.called_set.made
  have hsb := F.called_set.sub
  refine wpAny_call <| codeAny_of_tree ?_
  show wpAny _ _ (callAny (.type "set") (_)) _ _ _
  refine wpAny_pure ⟨(Code.quiet_builtin _ (by decide +kernel)), codeAny_builtin F.entry_type_call ?_⟩
  rw [Around.under_plain (weight_type_call_type "set" [.ref ls] []) rfl]
  have hx1 := F.called_set.notType
  have hx2 := F.called_set.canCreate
  have hck := F.typeCall_set_1 (.ref ls)
  repeat (any_goals (first | assumption | (wp_step)))

  refine codeAny_mono (code_set_led1 (.ref ls) (E := Ex) (Q₁ := fun ob0 s₁ => ob0 = .ref sh.heap.objs.size ∧ s₁ = { sh with heap := sh.heap.push { cls := .type "set", dict := none, data := .set #[] 0 (.fresh 0 0 (!w.params.followText "set-order")) } }) ⟨rfl, rfl⟩) fun rr s₁ hr => ?_
  cases rr with
  | error eq0 => exact hr
  | ok fl =>
    cases fl with
    | ret ob0 =>
      obtain ⟨rfl, rfl⟩ := hr
      have hset : (sh.heap.push { cls := .type "set", dict := none, data := .set #[] 0 (.fresh 0 0 (!w.params.followText "set-order")) }).get? sh.heap.objs.size = some { cls := .type "set", dict := none, data := .set #[] 0 (.fresh 0 0 (!w.params.followText "set-order")) } := Heap.get?_push_size _ rfl
      have hTy : Shared.TypeIs { sh with heap := sh.heap.push { cls := .type "set", dict := none, data := .set #[] 0 (.fresh 0 0 (!w.params.followText "set-order")) } } (.ref sh.heap.objs.size) "set" := ⟨_, hset, rfl⟩
      have hlk := F.called_set.init.lookup
      have hbn := F.called_set.init.bind (.ref sh.heap.objs.size)
      repeat (any_goals (first | assumption | (wp_step)))

      refine codeAny_mono (codeAny_call_builtin (R := wants (fun rr s₂ => rr = .none ∧ ∃ h' tk0 cn, s₂ = { sh with heap := h', toks := tk0 } ∧ SetR w h' sh.heap.objs.size (fun j => decide (j ∈ ns)) cn ∧ cn ≤ ns.length ∧
          (∀ b o, sh.heap.get? b = some o → h'.get? b = some o)) Ex) F.called_set.init.plain F.entry_set_init (check_set_init_1 hTy ?_)) fun r₂ s₂ hr₂ => ?_
      · obtain ⟨ols, hols, hcs, nl, hds⟩ := hls
        obtain ⟨ocls, odict, odata, oslots⟩ := ols
        simp only at hcs hds
        subst hcs; subst hds
        have hol' : (sh.heap.push { cls := .type "set", dict := none, data := .set #[] 0 (.fresh 0 0 (!w.params.followText "set-order")) }).get? ls = some { cls := .type "list", dict := odict, data := .seq items nl, slots := oslots } := Heap.get?_push_of_some _ hols
        have hq1 := F.sub_list_set
        have hq2 := F.sub_list_frozenset
        have hdif : (Value.type "list" == Value.type "dict") = false := by decide
        have hls1 : (sh.heap.push { cls := .type "set", dict := none, data := .set #[] 0 (.fresh 0 0 (!w.params.followText "set-order")) }).IsList ls items := ⟨_, hol', rfl, nl, rfl⟩
        (unfold Builtin.«set.__init__» noKeywords Builtin.Frozenset.updateFrom)
        generalize hpi : pyIter = PIt
        wp_walk
        subst hpi

        refine wpAny_pyIter_list hls1 ?_
        refine wpAny_bind <| wpAny_runValue ?_
        have hlt0 : ls < sh.heap.objs.size := Heap.lt_size hols
        have hhd3 : Ar.in1.in1.in1.handled = none := by simp [hhd]
        have hzz1 : (sh.heap.push { cls := .type "set", dict := none, data := .set #[] 0 (.fresh 0 0 (!w.params.followText "set-order")) }).objs.size = sh.heap.objs.size + 1 := Heap.size_push ..
        have hnI : ls ≠ (sh.heap.push { cls := .type "set", dict := none, data := .set #[] 0 (.fresh 0 0 (!w.params.followText "set-order")) }).objs.size := by
          rw [Heap.size_push]; exact Nat.ne_of_lt (Nat.lt_succ_of_lt hlt0)
        have hSff : sh.heap.objs.size ∉ [(sh.heap.push { cls := .type "set", dict := none, data := .set #[] 0 (.fresh 0 0 (!w.params.followText "set-order")) }).objs.size, ls] := by
          (rw [Heap.size_push]); simp only [List.mem_cons, List.mem_singleton, List.not_mem_nil, or_false, not_or]
          exact ⟨Nat.ne_of_lt (Nat.lt_succ_self _), Nat.ne_of_gt hlt0⟩
        have hvl : ∀ (i : Nat) (v : Value), items[i]? = some v → ∃ k tt, ns[i]? = some k ∧ v = .int k tt := fun i v hv => by
          have hii : i < ns.length := by rw [← hsz]; exact (Array.getElem?_eq_some_iff.mp hv).1
          obtain ⟨tt, eq0⟩ := PyProof.Rows.IntsAre.int_at hitm i v (by rw [Array.getElem?_toList]; exact hv)
          refine ⟨ns[i], tt, List.getElem?_eq_getElem hii, ?_⟩
          rw [eq0, List.getD_eq_getElem?_getD, List.getElem?_eq_getElem hii] <;> rfl
        refine set_update_ints ((Walks.list hhd3 _ ls hnI items).toS) sh.heap.objs.size
          hSff ns hsz hbd hvl (items.size - 0) 0 _ (by omega) (Nat.zero_le _)
          ⟨⟨_, Heap.get?_push_size _ rfl, rfl, rfl⟩, (hls1.push _)⟩ ?hS0 ?hR
        case hS0 =>
          have hgt : ((sh.heap.push { cls := .type "set", dict := none, data := .set #[] 0 (.fresh 0 0 (!w.params.followText "set-order")) }).push { cls := .type "list_iterator", data := .fields #[.ref ls, .int 0 0] }).get? sh.heap.objs.size
              = some { cls := .type "set", dict := none, data := .set #[] 0 (.fresh 0 0 (!w.params.followText "set-order")) } := Heap.get?_push_of_some _ hset
          exact ⟨0, Nat.le_refl 0, setR_new_at hgt⟩
        case hR =>
          intro s' c' hmv hc' hS'
          (obtain ⟨h', g20, d', tk', os'⟩ := s')
          have eg0 : g20 = sh.gens := hmv.gens
          have ed0 : d' = sh.drawn := hmv.drawn
          have eo0 : os' = sh.os := hmv.os
          subst eg0; subst ed0; subst eo0
          show wpAny _ _ _ _ _ _
          refine wpAny_pure ?_
          show wpAny _ _ (ret (Value.none)) _ _ _
          rw [hsz] at hc'
          refine wpAny_pure ⟨rfl, h', tk', c', rfl, hS', hc', (fun b o eq0 => ?_)⟩
          have hbz0 : b < sh.heap.objs.size := Heap.lt_size eq0
          have hbz1 : b ≠ sh.heap.objs.size := Nat.ne_of_lt hbz0
          have hbz2 : b ≠ (sh.heap.push { cls := .type "set", dict := none, data := .set #[] 0 (.fresh 0 0 (!w.params.followText "set-order")) }).objs.size := by
            rw [Heap.size_push]; exact Nat.ne_of_lt (Nat.lt_succ_of_lt hbz0)
          exact hmv.heap b o (by simp only [List.mem_cons, List.mem_singleton, List.not_mem_nil, or_false, not_or]; exact ⟨hbz1, hbz2⟩) (Heap.get?_push_of_some _ (Heap.get?_push_of_some _ eq0))

      · cases r₂ with
        | error eq0 => exact hr₂
        | ok fl₂ =>
          cases fl₂ with
          | ret rr =>
            obtain ⟨rfl, h', tk0, c', rfl, hS', hc', hk'⟩ := hr₂
            repeat (any_goals (first | assumption | (wp_step)))
            exact hk1 _ _ _ hS' hc' hk'
          | _ => exact hr₂.elim
    | _ => exact hr.elim
theorem sorted_setO {S : Int → Bool} {n : Nat} {Qq : Value → Shared → Prop} (R : SetR w sh.heap a S n) (hhd : Ar.handled = none) (h64 : n < 4096)
    (hQ : ∀ s' p (outs : Array Value) (cn : Nat) (ns : List Int), (∀ b o, sh.heap.get? b = some o → s'.heap.get? b = some o) → s'.gens = sh.gens → s'.os = sh.os → sh.heap.objs.size ≤ p →
      s'.heap.get? p = some (seqObj "list" outs cn) → IntsAre outs.toList ns → ns.Pairwise (· < ·) → (∀ k, k ∈ ns ↔ S k = true) → ns.length = n → Qq (.ref p) s') :
    wpAny (model P w) Ar (call (.builtin "sorted") [.ref a]) Qq Ex sh := by
  obtain ⟨o, es, ep, tt, hob, hex, hd, g, nd, hmv, hbd, hf, hn, hr, hls⟩ := R
  refine Calls.call_function_entry kind_sorted plain_sorted entry_sorted ((args_sorted1 _)) ?_
  unfold Builtin.«sorted»
  refine wpAny_bind (m := checkCount "sorted" 1 1 _) <| wpAny_pure ?_
  refine wpAny_bind (collect_set (A := Ar.in1) hhd ⟨o, hob, hex.1, hd⟩ hf hbd hr hls fun s1 vls k1 hz g1 o1 pmm => ?_)
  have hvll : vls.length = n := by rw [pmm.length_eq, List.length_map, Array.length_toList]; exact hn
  have hIn : IntsAre vls (vls.map Builtin.Re.reRawOf) := ints_of vls fun v hv => by
    obtain ⟨eq0, he, qq0⟩ := List.mem_map.mp (pmm.mem_iff.mp hv)
    obtain ⟨k, tk0, hx1, _⟩ := g eq0 he
    exact ⟨k, tk0, by rw [← qq0]; exact hx1⟩
  have pkk : (vls.map Builtin.Re.reRawOf).Perm (es.toList.map keyOf) := by
    have qq0 := pmm.map Builtin.Re.reRawOf
    rw [List.map_map] at qq0
    exact qq0
  refine wpAny_bind (wpAny_newList ?_ (by rw [hvll, sizeLine_eq]; omega))
  have hoLs : (s1.heap.push (seqObj "list" vls.toArray 0)).get? s1.heap.objs.size = some (seqObj "list" vls.toArray 0) := Heap.get?_push_size _ rfl
  refine wpAny_bind (wpAny_holding (wpAny_call_entry slot_list_sort ⟨_, hoLs, rfl⟩ entry_list_sort (SrtO.list_sort_ord SrtO.swo_int hoLs (by rw [hvll, sizeLine_eq]; omega) (fun hx2 => SrtO.ints_sortable hIn hx2) fun out0 hs1 hs2 => ⟨_, rfl, ?_⟩) (args_list_sort _)))
  obtain ⟨a1, a2, a3⟩ := SrtO.ints_out hIn hs1 hs2
  obtain ⟨outs, hout⟩ : ∃ outs : Array Value, outs = out0.toArray := ⟨_, rfl⟩
  obtain ⟨ns', hns'⟩ : ∃ ns' : List Int, ns' = out0.map SrtO.iv := ⟨_, rfl⟩
  have a1 : IntsAre outs.toList ns' := by rw [hout, hns']; simpa using a1
  rw [← hns'] at a2 a3
  rw [← hout]
  obtain ⟨cn, hc⟩ := sortedHeap_at (vs := vls) (out := outs) hoLs
  have pnn : ns'.Perm (es.toList.map keyOf) := a2.trans pkk
  refine wpAny_pure ⟨_, rfl, hQ _ s1.heap.objs.size outs cn ns' (fun b u eq0 => ?_) g1 o1 hz hc a1 (lt_of_le_nodup ns' a3 (pnn.nodup_iff.mpr nd)) (fun k => by rw [pnn.mem_iff, ← hmv k]) ?_⟩
  · have qq0 := k1 b u eq0
    have hltt := Heap.lt_size qq0
    show (sortedHeap (s1.heap.push (seqObj "list" vls.toArray 0)) s1.heap.objs.size vls outs).get? b = some u
    rw [sortedHeap_old (Nat.ne_of_lt hltt) (by rw [size_push']; exact Nat.lt_succ_of_lt hltt)]
    exact Heap.get?_push_of_some _ qq0
  · rw [pnn.length_eq, List.length_map, Array.length_toList]; exact hn
end
section
variable {X : Cx}
def tSSet (K : PySem.W.Frag) (te : TE) : TE := fun σ H Qq => te σ H fun v H1 => ∃ (a : Addr) (ns : List Int), v = .ref a ∧ SqL K H1 a (ns.map V.int) ∧ ns.length ≤ 4000 ∧
  ∀ (ns' : List Int) (qq0 : Addr), ns'.Pairwise (· < ·) → (∀ k : Int, k ∈ ns' ↔ k ∈ ns) → H1 qq0 = none → Qq (.ref qq0) (upd H1 qq0 (.lst (ns'.map V.int)))
theorem pe_sset {eq0 : Expr} {te : TE} {p p2 pos pos2 : Pos} (hc : X.calm = true) (hg : Gl X "sorted") (hmv : X.mg "sorted" = none) (hg2 : Gl X "set") (hm2 : X.mg "set" = none) (he : PE X eq0 te)
    (hst : starEach [eq0] X.env = (false, eval eq0 X.env) :: starEach [] X.env) :
    PE X (.Call (.Name "sorted" p) [.Call (.Name "set" p2) [eq0] [] pos2] [] pos) (tSSet X.K te) := by
  refine ⟨fun pn0 sh σ H Qq I hk1 => ?_⟩
  refine Call_ (ld_blt I hg hmv boot_sorted0 (PyProof.Rows.callWith_builtin1 (args_cons (Call_ (ld_blt I hg2 hm2 PyProof.Rows.boot_set (PyProof.Rows.callWith_type1 (args_cons (thn (he.run pn0 sh σ H _ I hk1) fun u s1 ⟨v, H1, I1, r1, q1⟩ => args_nil ?_) hst) hst rfl))) rfl) rfl rfl))
  obtain ⟨ad, ns, ev, hq, hls, qq0⟩ := q1
  subst ev
  obtain rfl : u = Value.ref ad := r1
  obtain ⟨its, rv, pl, hz⟩ := I1.list hq
  refine call_set_listO ns (I1.ok.hd hc) pl.isList (by simpa using rv.ints) (by unfold scanBound; omega) fun h' tk0 cn hset hcn hk => ?_
  refine args_nil ?_
  have I2 : Inv X pn0 σ H1 { s1 with heap := h', toks := tk0 } := I1.kept fun b o eq0 => hk b o eq0
  refine sorted_setO (sh := { s1 with heap := h', toks := tk0 }) hset (I1.ok.hd hc) (by omega) fun s' p outs c2 ns2 k g o hp hg2 hii hs hm2 hl2 => ?_
  have hlen : (ns2.map V.int).length ≤ sizeLine := by rw [List.length_map, hl2, sizeLine_eq]; omega
  have hn : H1 p = none := I2.hok.fresh hp
  have J : Inv X pn0 σ (upd H1 p (.lst (ns2.map V.int))) { ({ s1 with heap := h', toks := tk0 } : Shared) with heap := s'.heap, gens := s'.gens, drawn := s'.drawn, toks := s'.toks } :=
    I2.call (ch := []) (Un.laid k hp hn) (I2.hok.laid k hp ⟨hlen, outs.toList, c2, vals_of_ints hii, hg2⟩) (by rw [g]; exact I2.bare) (fun _ z => nomatch z)
  have eq0 : s' = { ({ s1 with heap := h', toks := tk0 } : Shared) with heap := s'.heap, gens := s'.gens, drawn := s'.drawn, toks := s'.toks } := by
    cases s'
    cases s1
    cases o
    rfl
  rw [eq0]
  exact ⟨.ref p, _, J, rfl, qq0 ns2 p hs (fun k => (hm2 k).trans (by simp)) hn⟩
end
end PL

namespace PL
open L2 PyProof.Rows PySem.Spec PySem
section
variable {Y : Cx} {CY : CXT} {kk nn : Nat} {fa : Addr} {dd : FuncData} {pp kn : List Str} {spq : Sp} {EE : L2.St → XK} {nx : Str} {p1 cp : Pos} {e1 : Expr} {el : List Expr} {kl : List Keyword} {ta tb : TA} {gg : List Value → List Value → List Value} {gw : List V → List V → List V}
def tCallKD (n m : Nat) (spq : Sp) (gw : List V → List V → List V) (EE : L2.St → XK) (ta tb : TA) : TE := fun σ H Qq => ta σ H fun v1 H1 => tb σ H1 fun z1 H2 => v1.length = n ∧ z1.length = m ∧ spq (gw v1 z1) H2 Qq (EE σ)
theorem run_fnKD {pn0 : List (Addr × Obj)} {σ : L2.St} {H : Hp} {sh : Shared} {Qq : VK} {ul wl : List Value} {vl zl : List V} (F0 : FnOk Y.prog Y.w Y.K Y.mg Y.base CY kk fa dd pp spq) (hr0 : Room kk Y.A) (hb0 : KBn Y.K dd pp nn kn gg gw) (hx0 : PassesAt CY Y σ (EE σ))
    (I0 : Inv Y pn0 σ H sh) (ru : Vals vl ul) (rz : Vals zl wl) (l1 : vl.length = nn) (l2 : zl.length = kn.length) (hq : spq (gw vl zl) H Qq (EE σ)) : wpAny (model Y.prog Y.w) Y.A (call (.ref fa) ul (kn.zip wl)) (EP Y pn0 σ Qq) Y.xe sh := by
  have rr := hb0.rel ru rz
  refine wpAny_call (codeAny_mono (F0.run Y.A Y.stack sh H ⟨ul, kn.zip wl⟩ (gg ul wl) (gw vl zl) Qq (EE σ) hr0 I0.env0 (hb0.to sh ul wl I0.kIn (ru.length.symm.trans l1) (rz.length.symm.trans l2)) rr hq) fun q1 sh1 h1 => ?_)
  cases q1 with
  | error ee => exact hx0 pn0 H sh ee sh1 I0 h1
  | ok fl =>
    cases fl with
    | ret u1 => exact I0.after h1
    | next => exact h1.elim
    | brk => exact h1.elim
    | cont => exact h1.elim
theorem pe_callKD (F0 : FnOk Y.prog Y.w Y.K Y.mg Y.base CY kk fa dd pp spq) (hr0 : Room kk Y.A) (hg0 : Gl Y nx) (hm0 : Y.mg nx = some (.ref fa)) (hk0 : PySem.W.keepIn Y.K (.ref fa) = true) (hb0 : KBn Y.K dd pp nn kn gg gw) (hx0 : ∀ σ, PassesAt CY Y σ (EE σ))
    (ha0 : PA Y (e1 :: el) ta) (hw0 : PK Y kl tb) (hall : (backToKw cp (keywordEach kl Y.env)).all (·.1.isSome) = true) (hks : (backToKw cp (keywordEach kl Y.env)).filterMap (·.1) = kn)
    (hdb : (nx == ("__debug__" : Str)) = false) (he0 : starEach (e1 :: el) Y.env = (false, eval e1 Y.env) :: starEach el Y.env)
    (hpl : ((backTo cp (starEach (e1 :: el) Y.env)).any (·.1) || (backToKw cp (keywordEach kl Y.env)).any (·.1.isNone)) = false) :
    PE Y (.Call (.Name nx p1) (e1 :: el) kl cp) (tCallKD nn kn.length spq gw EE ta tb) := by
  refine ⟨fun pn0 sh σ H Qq I0 hq => ?_⟩
  refine wpAny_Call_Name_kw (ld_glob I0 hg0 hm0 ?_ hdb)
  refine PySem.W.callWith_KW (h₀ := Y.base) I0.ok.mod.kin hk0 hall (thn (ha0.run cp pn0 sh σ H _ I0 hq) fun ul sh1 ⟨vl, H1, I1, r1, q1⟩ => ?_) hpl he0
  refine thn (hw0.run cp pn0 sh1 σ H1 _ I1 q1) fun wl sh2 ⟨zl, H2, I2, r2, l1, l2, q2⟩ => ⟨I2.kIn, ?_⟩
  rw [hks]
  exact run_fnKD F0 hr0 hb0 (hx0 σ) I2 r1 r2 l1 l2 q2
/-- o[lo:hi] = v -/
def gSlc (to : TE) (tl th : TO) : TG := fun v σ H Qq => to σ H fun x H1 => tl σ H1 fun l H2 => th σ H2 fun h H3 => ∃ (la lb : Addr) (xs ys : List V) (i j : Int), x = .ref la ∧ v = .ref lb ∧ l = some i ∧ h = some j ∧ H3 la = some (.lst xs) ∧ H3 lb = some (.lst ys) ∧ la ≠ lb ∧
  0 ≤ i ∧ i ≤ j ∧ j ≤ xs.length ∧ xs.length + ys.length ≤ sizeLine ∧ Qq σ (upd H3 la (.lst (xs.take i.toNat ++ ys ++ xs.drop j.toNat)))
theorem pg_slc {o : Expr} {lo hi : Option Expr} {to : TE} {tl th : TO} {p2 ps : Pos} (ho : PE Y o to) (hl : PO Y lo tl) (hu : PO Y hi th) : PG Y (.Subscript o (.Slice lo hi none p2) ps) (gSlc to tl th) := by
  refine ⟨fun pn0 sh σ H v u Qq I0 r0 hq => ?_⟩
  show wpAny (model Y.prog Y.w) Y.A (do
    let ov ← holding [u] (eval o Y.env)
    let iv ← holding [u, ov] (eval (.Slice lo hi none p2) Y.env)
    standAt ps
    holding [u, ov, iv] (setItem ov iv u)
    release [iv, u, ov] []) _ _ _
  refine wpAny_bind (wpAny_holding (thn (ho.run pn0 sh σ H _ I0 hq) fun ov s1 ⟨x, H1, I1, r1, q1⟩ => ?_))
  refine wpAny_bind (wpAny_holding (wpAny_Slice (thn (hl.run pn0 s1 σ H1 _ I1 q1) fun vl s2 ⟨l, H2, I2, pl, q2⟩ => thn (hu.run pn0 s2 σ H2 _ I2 q2) fun vu s3 ⟨h, H3, I3, pu, q3⟩ => ?_)))
  rw [evalPart_none]
  refine wpAny_pure ?_
  obtain ⟨la, lb, xs, ys, i, j, rfl, rfl, rfl, rfl, h1, h2, ne, a0, a1, a2, a3, q4⟩ := q3
  have I4 : Inv Y pn0 σ H3 { s3 with heap := s3.heap.push { cls := .type "slice", data := .fields #[vl, vu, .none] } } := I3.kept (t' := s3.toks) fun b ob qe => Heap.get?_push_of_some _ qe
  cases r1
  cases r0
  have ri : RelV (.int i) vl := by cases pl; exact ⟨_, rfl⟩
  have rj : RelV (.int j) vu := by cases pu; exact ⟨_, rfl⟩
  refine wpAny_bind (wpAny_standAt (wpAny_bind (wpAny_holding (set_slice I4 h1 h2 ne (Heap.IsSliceOf.new ..) ri rj a0 a1 a2 a3 fun s5 I5 => ?_))))
  exact wpAny_release ⟨σ, _, I5, q4⟩
end
end PL

namespace PL
open L2 PyProof.Rows PySem.Spec PySem

theorem Gr.of_kp {K : PySem.W.Frag} {M : AS} {H H' : Hp} (t : Trk M H) (k : Kp M H H') : Gr K M H M H' := by
  have go : ∀ a o, ¬ M a → Rd H a o → Rd H' a o := fun a o n r => by
    rcases r with r | ⟨u, r⟩
    · exact .inl (k a _ n r)
    · exact .inr ⟨u, k a _ n r⟩
  refine ⟨fun a xs r => k a _ (fun z => ?_) r, fun a o n r _ => ⟨n, go a o n r⟩⟩
  obtain ⟨o, e, m⟩ := t a z
  rw [e] at r; cases r; exact m

structure Ck where
  cst : List (Str × D)
  fs : List DI
  free : List Str
  xc : List (Str × Option Str) := []
  hot : Bool := false
def visB (sc : Scope) (x : Str) : Bool := match sc.names.lookup x with
  | some .local => true
  | some .cell => true
  | some .free => true
  | _ => false
def locB (sc : Scope) (x : Str) : Bool := match sc.names.lookup x with
  | some .local => true
  | _ => false
def glB (sc : Scope) (x : Str) : Bool := decide (sc.names.lookup x = some .globalImplicit)
def nmB (x : Str) : Bool := !(x == ("__debug__" : Str)) && !(x == ("__classdict__" : Str))
/-- a class of refusals by its name -/
def clsN (c : Ck) (sc : Scope) (x : Str) : Bool := glB sc x && (nmB x && (decide (x ≠ "__name__") && ((c.xc.any fun p => decide (p.1 = x)) || (decide (x = "ValueError") && c.free.contains x))))
def bltB (c : Ck) (sc : Scope) (x : Str) : Bool := glB sc x && (c.free.contains x && (nmB x && decide (x ≠ "__name__")))
def conB : D → Const → Bool
  | .non, .none => true
  | .bl b, .bool k => b == k
  | .int i, .int k => decide (i = k)
  | .str x, .str k => decide (x = k)
  | _, _ => false
def tyB (t : String) : Bool := decide (t = "int") || (decide (t = "bool") || (decide (t = "str") || (decide (t = "tuple") || decide (t = "list"))))
mutual
/-- a list that it makes is new -/
def frE (c : Ck) : IE → Bool
  | .lst _ | .comp .. | .rep _ _ | .bin _ _ _ | .slc _ _ _ | .lrev _ | .lrg _ _ | .sset _ | .fls _ => true
  | .bi f _ => f.fr
  | .u0 _ => true
  | .u1 k _ => (match k with | .lrg1 | .rvs | .dcp => true | _ => false)
  | .u2 k _ _ => (match k with | .dlit => true | _ => false)
  | .call j _ _ _ => (match c.fs[j]? with | some d => d.fr | none => false)
  | .callk j _ _ => (match c.fs[j]? with | some d => d.fr | none => false)
  | _ => false
/-- slots whose own cell it may be -/
def etE : IE → List Nat
  | .var i => [i]
  | .ifx _ a b => etE a ++ etE b
  | .sub a _ => eiE a
  | .bi _ es => eiS es
  | .dget a _ d => eiE a ++ etE d
  | .call _ es _ fl => if fl then [] else etS es ++ eiS es
  | .callk _ es e => (etS es ++ etE e) ++ (eiS es ++ eiE e)
  | _ => []
/-- slots whose cells may stand in it -/
def eiE : IE → List Nat
  | .ifx _ a b => eiE a ++ eiE b
  | .bin _ a b => eiE a ++ eiE b
  | .rep a _ => eiE a
  | .tup es => etS es ++ eiS es
  | .lst es => etS es ++ eiS es
  | .sub a _ => eiE a
  | .slc a _ _ => eiE a
  | .lrev a => eiE a
  | .bi _ es => eiS es
  | .u1 _ a => eiE a
  | .u2 _ _ b => etE b ++ eiE b
  | .dget a _ d => eiE a ++ eiE d
  | .call _ es _ fl => if fl then [] else etS es ++ eiS es
  | .callk _ es e => (etS es ++ etE e) ++ (eiS es ++ eiE e)
  | .comp own e _ it _ => (own ++ eiI it) ++ (etE e ++ eiE e)
  | _ => []
def etS : Es → List Nat
  | .nil => []
  | .cons e es => etE e ++ etS es
def eiS : Es → List Nat
  | .nil => []
  | .cons e es => eiE e ++ eiS es
def etI : II → List Nat
  | .ex e => etE e
  | .enum e => etE e
  | .zip a b => etE a ++ etE b
  | _ => []
def eiI : II → List Nat
  | .ex e => eiE e
  | .enum e => eiE e
  | .zip a b => eiE a ++ eiE b
  | _ => []
end
def lenS : Es → Nat
  | .nil => 0
  | .cons _ es => lenS es + 1
def clsNs (c : Ck) (sc : Scope) : List Str → List Expr → Bool
  | [], [] => true
  | y :: ys, .Name x _ :: l => decide (x = y) && (clsN c sc x && clsNs c sc ys l)
  | _, _ => false
/-- isinstance(x, T) -/
def shIs : Expr → Option ((Str × Pos × Str × Pos) × Expr × Pos)
  | .Call (.Name f p1) [.Name x p2, t] [] p => some ((f, p1, x, p2), t, p)
  | _ => none
theorem shIs_ok {e t : Expr} {f x : Str} {p1 p2 p : Pos} (h : shIs e = some ((f, p1, x, p2), t, p)) : e = .Call (.Name f p1) [.Name x p2, t] [] p := by
  unfold shIs at h
  split at h
  · cases h; rfl
  · cases h
def clsT (c : Ck) (sc : Scope) : List Str → Expr → Bool
  | [y], .Name x _ => decide (x = y) && clsN c sc x
  | y :: z :: ys, .Tuple l _ _ => decide (ys.length ≤ 900) && clsNs c sc (y :: z :: ys) l
  | _, _ => false
mutual
def ckT (N : List Str) (sc : Scope) : IT → Expr → Bool
  | .nm i, .Name x _ => decide (N[i]? = some x) && (match sc.names.lookup x with | some .local => true | some .cell => true | _ => false)
  | .tp ts, .Tuple es _ _ => ckTs N sc ts es
  | _, _ => false
def ckTs (N : List Str) (sc : Scope) : Ts → List Expr → Bool
  | .nil, [] => true
  | .cons t ts, e :: es => ckT N sc t e && ckTs N sc ts es
  | _, _ => false
end
/-- the comprehension's own names -/
def ownN (N : List Str) (own : List Nat) : List (Str × Nat) := own.filterMap fun i => (N[i]?).map fun x => (x, i)
def isNm : Expr → Bool
  | .Name _ _ => true
  | _ => false
def isTup : Expr → Bool
  | .Tuple _ _ _ => true
  | _ => false
/-- f(g(..)) -/
def shNest : Expr → Option (Str × Pos × Str × Pos × List Expr × Pos × Pos)
  | .Call (.Name x p1) [.Call (.Name y p2) l [] p3] [] p => some (x, p1, y, p2, l, p3, p)
  | _ => none
theorem shNest_ok {e : Expr} {x y : Str} {p1 p2 p3 p : Pos} {l : List Expr} (h : shNest e = some (x, p1, y, p2, l, p3, p)) : e = .Call (.Name x p1) [.Call (.Name y p2) l [] p3] [] p := by
  unfold shNest at h
  split at h
  · cases h; rfl
  · cases h
/-- f(l, nm = v) -/
def shCallK : Expr → Option (Str × Pos × List Expr × (Str × Expr × Pos) × Pos)
  | .Call (.Name x p1) l [⟨some nm, v, kp⟩] p => some (x, p1, l, (nm, v, kp), p)
  | _ => none
theorem shCallK_ok {e v : Expr} {x nm : Str} {p1 kp p : Pos} {l : List Expr} (h : shCallK e = some (x, p1, l, (nm, v, kp), p)) : e = .Call (.Name x p1) l [⟨some nm, v, kp⟩] p := by
  unfold shCallK at h
  split at h
  · cases h; rfl
  · cases h
/-- q[::-1] -/
def shRev : Expr → Option Expr
  | .Subscript q (.Slice none none (some (.UnaryOp .USub (.Constant (.int 1) _ _) _)) _) _ => some q
  | _ => none
theorem shRev_ok {e q : Expr} (h : shRev e = some q) : ∃ k p1 p2 p3 pos, e = .Subscript q (.Slice none none (some (.UnaryOp .USub (.Constant (.int 1) k p1) p2)) p3) pos := by
  unfold shRev at h
  split at h
  · cases h; exact ⟨_, _, _, _, _, rfl⟩
  · cases h
/-- x.m(l) -/
def shMeth : Expr → Option (Expr × Str × Pos × List Expr × Pos)
  | .Call (.Attribute o m ap) l [] p => some (o, m, ap, l, p)
  | _ => none
theorem shMeth_ok {e o : Expr} {m : Str} {ap p : Pos} {l : List Expr} (h : shMeth e = some (o, m, ap, l, p)) : e = .Call (.Attribute o m ap) l [] p := by
  unfold shMeth at h
  split at h
  · cases h; rfl
  · cases h
/-- a target's names are the block's -/
def lclT (N : List Str) (sc : Scope) (own : List Nat) (t : IT) : Bool := (tgts t).all fun i => own.contains i && (match N[i]? with | some x => locB sc x | none => false)
/-- raises nothing -/
def atomE : IE → Bool
  | .con _ | .var _ => true
  | _ => false
/-- a call where an exception is handled -/
def hotB (c : Ck) (j : Nat) (es : Es) (ds : List D) : Bool := (match c.fs[j]? with | some d => d.hot && d.dfl.isEmpty | none => false) && (decide (0 < lenS es) && ds.isEmpty)
mutual
def ckE (c : Ck) (N : List Str) : Scope → IE → Expr → Bool
  | sc, .var i, .Name x _ => decide (N[i]? = some x) && (visB sc x && nmB x)
  | _, .con d, .Constant k _ _ => conB d k
  | sc, .glob j, .Name x _ => (match c.cst[j]? with | some p => decide (p.1 = x) && flat p.2 | none => false) && (glB sc x && nmB x)
  | sc, .bin o a b, .BinOp l op r _ => decide (o = op) && (ckE c N sc a l && ckE c N sc b r)
  | sc, .rep a b, .BinOp l op r _ => decide (op = .Mult) && (frE c a && (ckE c N sc a l && ckE c N sc b r))
  | sc, .neg a, .UnaryOp op x _ => decide (op = .USub) && ckE c N sc a x
  | sc, .cmp o a b, .Compare l [op] [r] _ => decide (o = op) && (!(behindInMarks op r) && (ckE c N sc a l && ckE c N sc b r))
  | sc, .cmp2 o p a b d, .Compare l [op, op2] [r, r2] _ => decide (o = op) && (decide (p = op2) && (!(lastMarks [op, op2] [r, r2]) && (ckE c N sc a l && (ckE c N sc b r && ckE c N sc d r2))))
  | sc, .cmp3 o p q a b d e, .Compare l [op, op2, op3] [r, r2, r3] _ => decide (o = op) && (decide (p = op2) && (decide (q = op3) && (!(lastMarks [op, op2, op3] [r, r2, r3]) && (ckE c N sc a l && (ckE c N sc b r && (ckE c N sc d r2 && ckE c N sc e r3))))))
  | sc, .not a, .UnaryOp op x _ => decide (op = .Not) && ckE c N sc a x
  | sc, .and es, .BoolOp op l _ => decide (op = .And) && ckS c N sc es l
  | sc, .or es, .BoolOp op l _ => decide (op = .Or) && ckS c N sc es l
  | sc, .ifx t a b, .IfExp t' a' b' _ => ckE c N sc t t' && (ckE c N sc a a' && ckE c N sc b b')
  | sc, .tup es, .Tuple l _ _ => decide (lenS es ≤ 1000) && ckS c N sc es l
  | sc, .lst es, .List l _ => decide (lenS es ≤ 1000) && ckS c N sc es l
  | sc, .slc a lo hi, .Subscript o (.Slice l u none _) _ => ckE c N sc a o && (ckO c N sc lo l && ckO c N sc hi u)
  | sc, .sub a i, .Subscript o ix _ => ckE c N sc a o && ckE c N sc i ix
  | sc, .isi a t, .Call (.Name f _) [x, .Name y _] [] _ => decide (f = "isinstance") && (bltB c sc f && (decide (y = Str.ofString t) && (tyB t && (bltB c sc y && ckE c N sc a x))))
  | sc, .exIs i cs, e => (match shIs e with
      | some ((f, _, x, _), t, _) => decide (f = "isinstance") && (bltB c sc f && (decide (N[i]? = some x) && (visB sc x && (nmB x && clsT c sc cs t))))
      | none => false)
  | sc, .exAt i f, .Attribute (.Name x _) g _ => decide (N[i]? = some x) && (visB sc x && (nmB x && decide (f = g)))
  | sc, .lrev a, e => (match shNest e with
      | some (x, _, y, _, [q], _, _) => !c.hot && (decide (x = "list") && (bltB c sc x && (decide (y = "reversed") && (bltB c sc y && ckE c N sc a q))))
      | _ => false)
  | sc, .lrg a b, e => (match shNest e with
      | some (x, _, y, _, [q, q2], _, _) => !c.hot && (decide (x = "list") && (bltB c sc x && (decide (y = "range") && (bltB c sc y && (ckE c N sc a q && ckE c N sc b q2)))))
      | _ => false)
  | sc, .fls a, .Call f l kw p => frE c a && ckE c N sc a (.Call f l kw p)
  | sc, .sset a, e => (match shNest e with
      | some (x, _, y, _, [q], _, _) => !c.hot && (decide (x = "sorted") && (bltB c sc x && (decide (y = "set") && (bltB c sc y && ckE c N sc a q))))
      | _ => false)
  | sc, .idx a b, e => (match shMeth e with
      | some (o, m, ap, [q], p) => decide (m = "index") && ((ap.endLine == p.line) && (isNm o && (ckE c N sc a o && ckE c N sc b q)))
      | _ => false)
  | _, .u0 _, .Dict [] [] _ => true
  | sc, .u1 .lrg1 a, e => (match shNest e with
      | some (x, _, y, _, [q], _, _) => !c.hot && (decide (x = "list") && (bltB c sc x && (decide (y = "range") && (bltB c sc y && ckE c N sc a q))))
      | _ => false)
  | sc, .u1 .rvs a, e => (match shRev e with
      | some q => ckE c N sc a q
      | none => false)
  | sc, .u1 .dcp a, .Call (.Name x _) [q] [] _ => decide (x = "dict") && (bltB c sc x && ckE c N sc a q)
  | sc, .u1 .strI a, .Call (.Name x _) [q] [] _ => decide (x = "str") && (bltB c sc x && ckE c N sc a q)
  | sc, .dget a k d, e => (match shMeth e with
      | some (o, m, ap, [q, q2], p) => decide (m = "get") && ((ap.endLine == p.line) && (isNm o && (ckE c N sc a o && (ckE c N sc k q && ckE c N sc d q2))))
      | _ => false)
  | sc, .bi f es, .Call (.Name x _) l [] _ => (!c.hot || f.hot) && (f.ok && (decide (x = f.name) && (bltB c sc x && (decide (0 < lenS es) && ckS c N sc es l))))
  | sc, .call j es ds _, .Call (.Name x _) l [] _ => (match c.fs[j]? with
      | some d => decide (d.nm = x) && (decide (lenS es ≤ d.ps) && (decide (d.ps ≤ lenS es + d.dfl.length) && (decide (lenS es + ds.length = d.ps) && (ds.all flatD && eqDs ds (d.dfl.drop (lenS es + d.dfl.length - d.ps))))))
      | none => false) && ((!c.hot || hotB c j es ds) && (glB sc x && (nmB x && ckS c N sc es l)))
  | sc, .callk j es e, a => (match shCallK a with
      | some (x, _, l, (nm, v, _), _) => !c.hot && ((match c.fs[j]? with
        | some d => decide (d.nm = x) && (d.kw && (decide (lenS es + 1 = d.ps) && decide ((d.ns.take d.ps).getLast? = some nm)))
        | none => false) && (glB sc x && (nmB x && (decide (0 < lenS es) && (ckS c N sc es l && ckE c N sc e v)))))
      | none => false)
  | sc, .comp own e t it o, .ListComp elt [⟨tg, iter, ifs, as⟩] scope _ => !c.hot && (decide (as = 0) && (blkC N sc scope (ownN N own) && (decide ((ownN N own).map (·.2) = own) && (ckI c N sc it iter (isTup tg) && (ckT N (relS scope sc) t tg && (lclT N (relS scope sc) own t &&
      (ckE c N (relS scope sc) e elt && (match o, ifs with
        | .none, [] => true
        | .some x, [y] => ckE c N (relS scope sc) x y
        | _, _ => false))))))))
  | sc, .u2 .cnt a b, e => (match shMeth e with
      | some (o, m, ap, [q], p) => decide (m = "count") && ((ap.endLine == p.line) && (isNm o && (atomE b && (ckE c N sc a o && ckE c N sc b q))))
      | _ => false)
  | sc, .u2 .dlit a b, .Dict [some k] [v] _ => ckE c N sc a k && ckE c N sc b v
  | _, _, _ => false
/-- constants, the same -/
def ckS (c : Ck) (N : List Str) : Scope → Es → List Expr → Bool
  | _, .nil, [] => true
  | sc, .cons e es, a :: l => ckE c N sc e a && ckS c N sc es l
  | _, _, _ => false
def ckO (c : Ck) (N : List Str) : Scope → IO → Option Expr → Bool
  | _, .none, none => true
  | sc, .some e, some a => ckE c N sc e a
  | _, _, _ => false
def ckI (c : Ck) (N : List Str) : Scope → II → Expr → Bool → Bool
  | sc, .rg1 a, .Call (.Name x _) [p] [] _, _ => decide (x = "range") && (bltB c sc x && ckE c N sc a p)
  | sc, .rg2 a b, .Call (.Name x _) [p, q] [] _, _ => decide (x = "range") && (bltB c sc x && (ckE c N sc a p && ckE c N sc b q))
  | sc, .rg3 a b d, .Call (.Name x _) [p, q, r] [] _, _ => decide (x = "range") && (bltB c sc x && (ckE c N sc a p && (ckE c N sc b q && ckE c N sc d r)))
  | sc, .enum e, .Call (.Name x _) [p] [] _, tup => decide (x = "enumerate") && (tup && (bltB c sc x && ckE c N sc e p))
  | sc, .zip a b, .Call (.Name x _) [p, q] [] _, tup => decide (x = "zip") && (tup && (bltB c sc x && (ckE c N sc a p && ckE c N sc b q)))
  | sc, .ex e, a, _ => ckE c N sc e a
  | _, _, _, _ => false
def eqDs : List D → List D → Bool
  | [], [] => true
  | .non :: r, .non :: s => eqDs r s
  | .bl a :: r, .bl b :: s => (a == b) && eqDs r s
  | .int a :: r, .int b :: s => decide (a = b) && eqDs r s
  | .str a :: r, .str b :: s => decide (a = b) && eqDs r s
  | _, _ => false
end
end PL

namespace PL
open L2 PyProof.Rows PySem.Spec PySem

/-- an exception's class, its own dict -/
def XR (xl : List (Str × Option Str)) (K : PySem.W.Frag) : D → Value → Option Addr → Hp → Prop
  | .ex c [], cls, d, _ => (∃ f, (c, f) ∈ xl) ∧ cls = .ref (He.ga K c) ∧ d = none
  | .ex c [.str f, x], cls, d, H => (c, some f) ∈ xl ∧ cls = .ref (He.ga K c) ∧ flat x = true ∧ ∃ p v, d = some p ∧ H p = some (.xd [(f, v)]) ∧ Rep K F0 H x v
  | _, _, _, _ => False
/-- what a def promises -/
def spP (xl : List (Str × Option Str)) (K : PySem.W.Frag) (n : Nat) (fr : Bool) (F : List D → R D) : Sp := fun vs H Q E => ∃ (ds : List D) (M : AS), ds.length = n ∧ Reps K M H ds vs ∧ Trk M H ∧
  Sat (F ds) (fun d => ∀ v H', Same H H' → Res K fr M M H H' d v → Q v H') (fun x => ∀ H' cls dx, Same H H' → XR xl K x cls dx H' → E cls dx H')
structure FO (xl : List (Str × Option Str)) (X : Cx) (n : Nat) (G : Ga) (j : Nat) (d : DI) : Prop where
  ex : ∃ f fd, X.mg d.nm = some (.ref f) ∧ PySem.W.keepIn X.K (.ref f) = true ∧ FnOk X.prog X.w X.K X.mg X.base (L2N.CX X.prog X.w) (n + 2) f fd (d.ns.take d.ps) (spP xl X.K d.ps d.fr (G j)) ∧
    (∀ m, m ≤ d.ps → d.ps ≤ m + d.dfl.length → ∃ ds, Vals ((d.dfl.drop (m + d.dfl.length - d.ps)).map vOf) ds ∧ Binds X.K fd (d.ns.take d.ps) ds) ∧
    (d.kw = true → ∀ (nm : Str), (d.ns.take d.ps).getLast? = some nm → ∀ (s : Shared) (us : List Value) (w : Value), X.K.In s.heap → us.length + 1 = d.ps → BindsTo s fd ⟨us, [(nm, w)]⟩ ((d.ns.take d.ps).zip (us ++ [w]))) ∧
    (d.hot = true → L2H.FnH X.prog X.w X.K X.mg X.base (L2N.CX X.prog X.w) (n + 2) f fd (d.ns.take d.ps) (spP xl X.K d.ps d.fr (G j)))
/-- the classes of refusals -/
structure XcO (X : Cx) (x : Str) (f : Option Str) : Prop where
  nv : x ≠ "ValueError"
  mg : X.mg x = some (.ref (He.ga X.K x))
  keep : PySem.W.keepIn X.K (.ref (He.ga X.K x)) = true
  typ : PySem.W.typeIn X.K (.ref (He.ga X.K x)) = some (.type "type")
  exB : PySem.W.subIn X.K (.ref (He.ga X.K x)) (.type "BaseException") = some true
  exc : f = none → PySem.W.excIn X.K (He.ga X.K x) He.veBase "ValueError.__new__" = true
  ga : PySem.W.findIn X.K (.ref (He.ga X.K x)) "__getattribute__" = some (some (.builtin "BaseException.__getattribute__"))
  gg : PySem.W.findIn X.K (.ref (He.ga X.K x)) "__getattr__" = some none
  hd : PySem.W.hasDictIn X.K (He.ga X.K x) = true
  ca : PySem.W.findIn X.K (.ref (He.ga X.K x)) "__class__" = some (some (.builtin "object.__class__"))
  mro : PySem.W.mroIn X.K (He.ga X.K x) (.type "object") = some true
  exV : PySem.W.exmOne X.K (.ref (He.ga X.K x)) (.type "ValueError") = some true
  ktV : PySem.W.kitOne X.K (.ref (He.ga X.K x)) (.type "ValueError") = some true
  fld : ∀ g, f = some g → PySem.W.findIn X.K (.ref (He.ga X.K x)) g = some none ∧ g ≠ "" ∧ ∃ (fI : Addr) (fd : FuncData) (ps : List Str), OexC X.K (He.ga X.K x) ∧ PySem.W.findIn X.K (.ref (He.ga X.K x)) "__init__" = some (some (.ref fI)) ∧ PySem.W.typeIn X.K (.ref fI) = some (.type "function") ∧
    Binds X.K fd ps [] ∧ FnOk X.prog X.w X.K X.mg X.base (L2N.CX X.prog X.w) 1 fI fd ps (fun vs H Q E => ∃ (a : Addr) (v : V), vs = [.ref a, v] ∧ H a = some (exo a (He.ga X.K x) none) ∧ ∀ dx, H dx = none → dx ≠ a → Q .non (upd (upd H dx (exd dx [(g, v)])) a (exo a (He.ga X.K x) (some dx))))
structure SX (c : Ck) (T : List (Str × D)) (n : Nat) (G : Ga) (W : WX) (sc : Scope) (X : Cx) : Prop where
  nd : X.N.Nodup
  calm : c.hot = false → X.calm = true
  scope : X.env.scope = sc
  room : c.hot = false → Room (n + 2) X.A
  roomH : L2H.RoomH (n + 2) X.A
  hotc : c.hot = true → L2H.HotC X
  tk : L2N.Takes X W
  free : ∀ x, c.free.contains x = true → X.mg x = none
  fn : ∀ j d, c.fs[j]? = some d → FO c.xc X n G j d
  cst : ∀ (j : Nat) (p : Str × D), c.cst[j]? = some p → T[j]? = some p ∧ ∃ u v, X.mg p.1 = some u ∧ RelV v u ∧ ∀ M H, Rep X.K M H p.2 v
  xc : ∀ x f, (x, f) ∈ c.xc → XcO X x f
  xcm : ∀ x f y g, (x, f) ∈ c.xc → (y, g) ∈ c.xc → PySem.W.exmOne X.K (.ref (He.ga X.K x)) (.ref (He.ga X.K y)) = some (isSub x y) ∧ PySem.W.kitOne X.K (.ref (He.ga X.K x)) (.ref (He.ga X.K y)) = some (isSub x y)
  spc : c.xc ≠ [] → PySem.W.specialIn X.K (.builtin "object.__class__") "__get__" = some (some (.builtin "getset_descriptor.__get__")) ∧ PySem.W.takesIn X.K (.builtin "object.__class__") = some true
  cur : ∀ a x xs, curE T = some (a, x, xs) → c.hot = true ∧ ∃ (e : Addr) (oe : Obj) (d : Option Addr) (f : Option Str), a = (e : Int) ∧ (x, f) ∈ c.xc ∧ (e, oe) ∈ X.pn ∧ Zc (.ref (He.ga X.K x)) d oe ∧ (∃ vs, oe.data = .fields vs) ∧
    ((xs = [] ∧ d = none) ∨ ∃ dd g y, f = some g ∧ xs = [.int dd, .str g, y] ∧ d = some dd.toNat)

def MM (Mc : AS) (P : Nat → Option Addr) (L : List Nat) : AS := fun a => Mc a ∨ ∃ i, i ∉ L ∧ P i = some a
theorem MM.less {Mc : AS} {P : Nat → Option Addr} {L L' : List Nat} (h : ∀ i, i ∈ L' → i ∈ L) : ∀ a, MM Mc P L a → MM Mc P L' a := fun a x => x.imp id fun ⟨i, n, e⟩ => ⟨i, fun z => n (h i z), e⟩
def mutk : D → Bool
  | .lst _ | .dK _ _ | .dT _ _ => true
  | _ => false
/-- what stands in a slot: with an own cell, or not -/
def Slt (K : PySem.W.Frag) (M : AS) (H : Hp) : Option Addr → D → V → Prop
  | none, d, v => Rep K M H d v
  | some p, .lst ds, v => v = .ref p ∧ ∃ vs, H p = some (.lst vs) ∧ Reps K M H ds vs
  | some p, .dK ks ds, v => v = .ref p ∧ ∃ vs, H p = some (.dK (ks.zip vs)) ∧ ks.length = ds.length ∧ Reps K M H ds vs
  | some p, .dT ks ds, v => v = .ref p ∧ ∃ vs, H p = some (.dT (ks.zip vs)) ∧ ks.length = ds.length ∧ Reps K M H ds vs
  | some _, _, _ => False
structure SR (K : PySem.W.Frag) (Mc : AS) (H0 : Hp) (O : List Nat) (P : Nat → Option Addr) (r : En) (σ : L2.St) (H : Hp) : Prop where
  same : Same H0 H
  mc : Trk Mc H
  new : ∀ i a, P i = some a → H0 a = none ∧ ¬ Mc a ∧ i ∈ O ∧ ∃ o, H a = some o ∧ MK o
  inj : ∀ i j a, P i = some a → P j = some a → i = j
  len : σ.length = r.length
  slot : ∀ i d, r[i]? = some (some d) → ∃ v, σ[i]? = some (some v) ∧ Slt K (MM Mc P []) H (P i) d v ∧ (i ∈ O → mutk d = true → ∃ a, P i = some a)
section
variable {K : PySem.W.Frag} {Mc M M' : AS} {H0 H H' : Hp} {O : List Nat} {P : Nat → Option Addr} {r : En} {σ : L2.St}
theorem Slt.gr {p : Option Addr} {d : D} {v : V} (g : Gr K M H M' H') (k : ∀ a o, p = some a → H a = some o → H' a = some o) (h : Slt K M H p d v) : Slt K M' H' p d v := by
  cases p with
  | none => exact Rep.gr g _ _ h
  | some p =>
    cases d <;> first
      | exact h.elim
      | (obtain ⟨e, vs, h1, h2⟩ := h; exact ⟨e, vs, k _ _ rfl h1, Reps.gr g _ _ h2⟩)
      | (obtain ⟨e, vs, h1, h3, h2⟩ := h; exact ⟨e, vs, k _ _ rfl h1, h3, Reps.gr g _ _ h2⟩)
theorem SR.trk (s : SR K Mc H0 O P r σ H) (L : List Nat) : Trk (MM Mc P L) H := fun a h => by
  rcases h with h | ⟨i, _, e⟩
  · exact s.mc a h
  · exact (s.new i a e).2.2.2
theorem SR.grow (s : SR K Mc H0 O P r σ H) (g : Same H H') : SR K Mc H0 O P r σ H' where
  same := s.same.trans g
  mc := s.mc.same g
  new := fun i a e => let ⟨h1, h2, h5, o, h3, h4⟩ := s.new i a e; ⟨h1, h2, h5, o, g _ _ h3, h4⟩
  inj := s.inj
  len := s.len
  slot := fun i d e => let ⟨v, h1, h2, h3⟩ := s.slot i d e; ⟨v, h1, h2.gr (Gr.same g) (fun a o _ q => g _ _ q), h3⟩
/-- a slot's value -/
theorem SR.var (s : SR K Mc H0 O P r σ H) {i : Nat} {d : D} (e : r[i]? = some (some d)) : ∃ v, σ[i]? = some (some v) ∧ RepT K (MM Mc P [i]) (MM Mc P []) H d v := by
  obtain ⟨v, h1, h2, _⟩ := s.slot i d e
  refine ⟨v, h1, ?_⟩
  cases q : P i with
  | none =>
    rw [q] at h2
    exact (RepT.of h2).less (MM.less fun j hj => absurd hj (by simp)) (fun _ z => z)
  | some p =>
    rw [q] at h2
    have off : ¬ MM Mc P [i] p := fun z => by
      rcases z with z | ⟨j, hj, ej⟩
      · exact (s.new i p q).2.1 z
      · exact hj (by simp [s.inj j i p ej q])
    cases d <;> first
      | exact h2.elim
      | (obtain ⟨e, vs, h3, h4⟩ := h2; exact ⟨p, vs, e, .inl ⟨off, .inl h3⟩, h4⟩)
      | (obtain ⟨e, vs, h3, h5, h4⟩ := h2; exact ⟨p, vs, e, ⟨off, .inl h3⟩, h5, h4⟩)
end
/-- own cells given up -/
def offP (P : Nat → Option Addr) (L : List Nat) : Nat → Option Addr := fun i => if i ∈ L then none else P i
def offO (O L : List Nat) : List Nat := O.filter fun i => !(L.contains i)
theorem offP_some {P : Nat → Option Addr} {L : List Nat} {i : Nat} {a : Addr} (h : offP P L i = some a) : i ∉ L ∧ P i = some a := by
  unfold offP at h
  split at h
  · cases h
  · rename_i n; exact ⟨n, h⟩
theorem mem_offO {O L : List Nat} {i : Nat} : i ∈ offO O L ↔ i ∈ O ∧ i ∉ L := by
  unfold offO
  rw [List.mem_filter]
  simp
theorem MM.off {Mc : AS} {P : Nat → Option Addr} {L L' : List Nat} (h : ∀ i, i ∈ L' → i ∈ L) : ∀ a, MM Mc (offP P L) [] a → MM Mc P L' a := fun a x => by
  rcases x with x | ⟨i, _, e⟩
  · exact .inl x
  · obtain ⟨n, e⟩ := offP_some e
    exact .inr ⟨i, fun z => n (h i z), e⟩
section
variable {K : PySem.W.Frag} {Mc M M' : AS} {H0 H H' : Hp} {O : List Nat} {P : Nat → Option Addr} {r : En} {σ : L2.St}
theorem SR.drop (s : SR K Mc H0 O P r σ H) (L : List Nat) : SR K Mc H0 (offO O L) (offP P L) r σ H where
  same := s.same
  mc := s.mc
  new := fun i a e => let ⟨n, e⟩ := offP_some e; let ⟨h1, h2, h3, h4⟩ := s.new i a e; ⟨h1, h2, mem_offO.mpr ⟨h3, n⟩, h4⟩
  inj := fun i j a e f => s.inj i j a (offP_some e).2 (offP_some f).2
  len := s.len
  slot := fun i d e => by
    by_cases hi : i ∈ L
    · obtain ⟨v, h1, h2⟩ := s.var e
      have q : offP P L i = none := if_pos hi
      refine ⟨v, h1, by rw [q]; exact (h2.less (MM.off fun j hj => by simp at hj; rw [hj]; exact hi) (MM.off fun j hj => absurd hj (by simp))).rep, fun z => absurd hi (mem_offO.mp z).2⟩
    · obtain ⟨v, h1, h2, h3⟩ := s.slot i d e
      have q : offP P L i = P i := if_neg hi
      refine ⟨v, h1, by rw [q]; exact h2.gr (Gr.less (MM.off fun j hj => absurd hj (by simp))) (fun _ _ _ z => z), fun z m => by rw [q]; exact h3 (mem_offO.mp z).1 m⟩
/-- a value into a slot without an own cell -/
theorem SR.set (s : SR K Mc H0 O P r σ H) {i : Nat} {d : D} {v : V} (hp : P i = none) (ho : i ∉ O) (h : Rep K (MM Mc P []) H d v) : SR K Mc H0 O P (r.set i (some d)) (σ.set i (some v)) H where
  same := s.same
  mc := s.mc
  new := s.new
  inj := s.inj
  len := by rw [List.length_set, List.length_set]; exact s.len
  slot := fun j e q => by
    by_cases hj : i = j
    · subst hj
      have hl : i < r.length := by
        have := (List.getElem?_eq_some_iff.mp q).1
        rw [List.length_set] at this
        exact this
      rw [List.getElem?_set_self hl] at q
      cases q
      exact ⟨v, List.getElem?_set_self (by rw [s.len]; exact hl), by rw [hp]; exact h, fun z => absurd z ho⟩
    · rw [List.getElem?_set_ne hj] at q
      obtain ⟨u, h1, h2⟩ := s.slot j e q
      exact ⟨u, by rw [List.getElem?_set_ne hj]; exact h1, h2⟩
/-- some slots forgotten -/
theorem SR.wipe (s : SR K Mc H0 O P r σ H) : ∀ vs : List Nat, SR K Mc H0 O P (wipeE r vs) (L2.wipe σ vs) H
  | [] => s
  | v :: vs => by
    have ih := SR.wipe s vs
    refine ⟨ih.same, ih.mc, ih.new, ih.inj, ?_, fun j e q => ?_⟩
    · show ((L2.wipe σ vs).set v none).length = ((wipeE r vs).set v none).length
      rw [List.length_set, List.length_set]; exact ih.len
    · have q : ((wipeE r vs).set v none)[j]? = some (some e) := q
      by_cases hj : v = j
      · subst hj
        by_cases hl : v < (wipeE r vs).length
        · rw [List.getElem?_set_self hl] at q; cases q
        · rw [List.getElem?_eq_none (by rw [List.length_set]; omega)] at q; cases q
      · rw [List.getElem?_set_ne hj] at q
        obtain ⟨u, h1, h2⟩ := ih.slot j e q
        refine ⟨u, ?_, h2⟩
        show ((L2.wipe σ vs).set v none)[j]? = _
        rw [List.getElem?_set_ne hj]; exact h1
/-- one thing more to keep off, that nobody here knows -/
theorem SR.more (s : SR K Mc H0 O P r σ H) {D : Addr} {o : HO} (hn : H D = none) (hm : MK o) (e : H' D = some o) (g : Same H H') : SR K (fun a => Mc a ∨ a = D) H0 O P r σ H' := by
  have s' := s.grow g
  have mono : Gr K (MM Mc P []) H (MM (fun a => Mc a ∨ a = D) P []) H := Gr.more fun a x => by
    rcases x with (x | x) | x
    · exact .inl (.inl x)
    · exact .inr (by rw [x]; exact hn)
    · exact .inl (.inr x)
  refine ⟨s'.same, fun a x => ?_, fun i a q => ?_, s.inj, s.len, fun i d q => ?_⟩
  · rcases x with x | x
    · exact s'.mc a x
    · rw [x]; exact ⟨o, e, hm⟩
  · obtain ⟨h1, h2, h3, o', h4, h5⟩ := s.new i a q
    refine ⟨h1, fun z => ?_, h3, o', g _ _ h4, h5⟩
    rcases z with z | z
    · exact h2 z
    · rw [z, hn] at h4; cases h4
  · obtain ⟨v, h1, h2, h3⟩ := s.slot i d q
    exact ⟨v, h1, (h2.gr mono (fun _ _ _ z => z)).gr (Gr.same g) (fun _ _ _ z => g _ _ z), h3⟩
end
/-- several values -/
def RepL (K : PySem.W.Frag) (Mt Mi : AS) (H : Hp) : List D → List V → Prop
  | [], vs => vs = []
  | d :: ds, vs => ∃ v r, vs = v :: r ∧ RepT K Mt Mi H d v ∧ RepL K Mt Mi H ds r
section
variable {K : PySem.W.Frag} {Mt Mi Mt' Mi' M : AS} {H H' : Hp}
theorem RepL.same (s : Same H H') : ∀ {ds : List D} {vs : List V}, RepL K Mt Mi H ds vs → RepL K Mt Mi H' ds vs
  | [], _, h => h
  | _ :: _, _, ⟨v, r, e, h1, h2⟩ => ⟨v, r, e, h1.same s, RepL.same s h2⟩
theorem RepL.less (h1 : ∀ a, Mt' a → Mt a) (h2 : ∀ a, Mi' a → Mi a) : ∀ {ds : List D} {vs : List V}, RepL K Mt Mi H ds vs → RepL K Mt' Mi' H ds vs
  | [], _, h => h
  | _ :: _, _, ⟨v, r, e, h3, h4⟩ => ⟨v, r, e, h3.less h1 h2, RepL.less h1 h2 h4⟩
theorem RepL.reps : ∀ {ds : List D} {vs : List V}, RepL K M M H ds vs → Reps K M H ds vs
  | [], _, h => h
  | _ :: _, _, ⟨v, r, e, h3, h4⟩ => ⟨v, r, e, h3.rep, RepL.reps h4⟩
theorem RepL.ts : ∀ {ds : List D} {vs : List V}, RepL K Mt Mi H ds vs → RepTs K Mi H ds vs
  | [], _, h => h
  | _ :: _, _, ⟨v, r, e, h3, h4⟩ => ⟨v, r, e, h3.less (fun _ z => z.elim) (fun _ z => z), RepL.ts h4⟩
theorem RepL.len : ∀ {ds : List D} {vs : List V}, RepL K Mt Mi H ds vs → vs.length = ds.length
  | [], _, h => by have h : _ = [] := h; subst h; rfl
  | _ :: _, _, ⟨v, r, e, h3, h4⟩ => by subst e; simp [RepL.len h4]
theorem RepT.flatT {d : D} {v : V} (f : PL.flat d = true) (h : RepT K Mt Mi H d v) : RepT K Mt' Mi' H d v := by
  cases d <;> first
    | exact Rep.flat_any (M := Mi) _ _ f h
    | cases f
theorem Res.flat {fr : Bool} {d : D} {v : V} (f : PL.flat d = true) (h : Res K fr Mt Mi H H' d v) : Res K fr Mt' Mi' H H' d v := by
  unfold Res at h ⊢
  split at h
  · rename_i e; rw [if_pos e]; exact FrT.flat_any f h
  · rename_i e; rw [if_neg e]; exact RepT.flatT f h
theorem vOf_rep {d : D} (f : flatD d = true) : Rep K M H d (vOf d) := by cases d <;> first | rfl | cases f
theorem vOfs_rep : ∀ {ds : List D}, ds.all flatD = true → Reps K M H ds (ds.map vOf)
  | [], _ => rfl
  | d :: ds, f => by
    (rw [List.all_cons, Bool.and_eq_true] at f)
    exact ⟨_, _, rfl, vOf_rep f.1, vOfs_rep f.2⟩
theorem eqDs_ok : ∀ {a b : List D}, eqDs a b = true → a = b
  | [], [], _ => rfl
  | .non :: r, .non :: s, h => by rw [eqDs_ok (a := r) (b := s) h]
  | .bl a :: r, .bl b :: s, h => by
    have h : ((a == b) && eqDs r s) = true := h
    rw [Bool.and_eq_true] at h
    rw [eq_of_beq h.1, eqDs_ok h.2]
  | .int a :: r, .int b :: s, h => by
    have h : (decide (a = b) && eqDs r s) = true := h
    rw [Bool.and_eq_true] at h
    rw [of_decide_eq_true h.1, eqDs_ok h.2]
  | .str a :: r, .str b :: s, h => by
    have h : (decide (a = b) && eqDs r s) = true := h
    rw [Bool.and_eq_true] at h
    rw [of_decide_eq_true h.1, eqDs_ok h.2]
  | [], _ :: _, h => by cases h
  | d :: _, [], h => by cases d <;> cases h
  | .non :: _, .bl _ :: _, h => by cases h
  | .non :: _, .int _ :: _, h => by cases h
  | .non :: _, .str _ :: _, h => by cases h
  | .non :: _, .tup _ :: _, h => by cases h
  | .non :: _, .lst _ :: _, h => by cases h
  | .non :: _, .dK _ _ :: _, h => by cases h
  | .non :: _, .dT _ _ :: _, h => by cases h
  | .non :: _, .ex _ _ :: _, h => by cases h
  | .bl _ :: _, .non :: _, h => by cases h
  | .bl _ :: _, .int _ :: _, h => by cases h
  | .bl _ :: _, .str _ :: _, h => by cases h
  | .bl _ :: _, .tup _ :: _, h => by cases h
  | .bl _ :: _, .lst _ :: _, h => by cases h
  | .bl _ :: _, .dK _ _ :: _, h => by cases h
  | .bl _ :: _, .dT _ _ :: _, h => by cases h
  | .bl _ :: _, .ex _ _ :: _, h => by cases h
  | .int _ :: _, .non :: _, h => by cases h
  | .int _ :: _, .bl _ :: _, h => by cases h
  | .int _ :: _, .str _ :: _, h => by cases h
  | .int _ :: _, .tup _ :: _, h => by cases h
  | .int _ :: _, .lst _ :: _, h => by cases h
  | .int _ :: _, .dK _ _ :: _, h => by cases h
  | .int _ :: _, .dT _ _ :: _, h => by cases h
  | .int _ :: _, .ex _ _ :: _, h => by cases h
  | .str _ :: _, .non :: _, h => by cases h
  | .str _ :: _, .int _ :: _, h => by cases h
  | .str _ :: _, .bl _ :: _, h => by cases h
  | .str _ :: _, .tup _ :: _, h => by cases h
  | .str _ :: _, .lst _ :: _, h => by cases h
  | .str _ :: _, .dK _ _ :: _, h => by cases h
  | .str _ :: _, .dT _ _ :: _, h => by cases h
  | .str _ :: _, .ex _ _ :: _, h => by cases h
  | .tup _ :: _, e :: _, h => by cases e <;> cases h
  | .lst _ :: _, e :: _, h => by cases e <;> cases h
  | .dK _ _ :: _, e :: _, h => by cases e <;> cases h
  | .dT _ _ :: _, e :: _, h => by cases e <;> cases h
  | .ex _ _ :: _, e :: _, h => by cases e <;> cases h
end

section
variable {c : Ck} {n : Nat} {G : Ga} {T : List (Str × PL.D)} {W : WX} {sc : Scope} {X : Cx}
theorem SX.vis (hx : SX c T n G W sc X) {x : Str} (h : visB sc x = true) : Vis X.env.scope x := by
  rw [hx.scope]
  unfold visB at h
  split at h
  · rename_i e; exact .inl e
  · rename_i e; exact .inr (.inl e)
  · rename_i e; exact .inr (.inr e)
  · cases h
theorem SX.gl (hx : SX c T n G W sc X) {x : Str} (h : glB sc x = true) : Gl X x := by
  show X.env.scope.names.lookup x = _
  rw [hx.scope]
  exact of_decide_eq_true h
theorem nmB_ok {x : Str} (h : nmB x = true) : (x == ("__debug__" : Str)) = false ∧ (x == ("__classdict__" : Str)) = false := by
  unfold nmB at h
  (rw [Bool.and_eq_true, Bool.not_eq_true', Bool.not_eq_true'] at h)
  exact h
theorem SX.blt (hx : SX c T n G W sc X) {x : Str} (h : bltB c sc x = true) : Gl X x ∧ X.mg x = none ∧ (x == ("__debug__" : Str)) = false ∧ x ≠ "__name__" := by
  unfold bltB at h
  (simp only [Bool.and_eq_true, decide_eq_true_eq] at h)
  exact ⟨hx.gl h.1, hx.free x h.2.1, (nmB_ok h.2.2.1).1, h.2.2.2⟩
theorem SX.hu (hx : SX c T n G W sc X) : X.A.units + 65 < cLine := by have := hx.roomH.un; omega
end
theorem star_of {e : Expr} {es : List Expr} {env : Env} (h : ∀ x p, e ≠ .Starred x p) : starEach (e :: es) env = (false, eval e env) :: starEach es env := by
  cases e <;> first | rfl | exact absurd rfl (h _ _)
theorem ckE_star {c : Ck} {N : List Str} {sc : Scope} {e : IE} {x : Expr} {p : Pos} : ckE c N sc e (.Starred x p) = false := by
  cases e with
  | u1 k a => cases k <;> rfl
  | u2 k a b => cases k <;> rfl
  | _ => rfl
theorem ckS_star {c : Ck} {N : List Str} {sc : Scope} : ∀ {es : Es} {l : List Expr} {env : Env}, ckS c N sc es l = true → (starEach l env).any (·.1) = false
  | .nil, [], _, _ => rfl
  | .nil, _ :: _, _, h => by cases h
  | .cons _ _, [], _, h => by cases h
  | .cons e es, a :: l, env, h => by
    have h : (ckE c N sc e a && ckS c N sc es l) = true := h
    rw [Bool.and_eq_true] at h
    have ne : ∀ x p, a ≠ .Starred x p := fun x p q => by subst q; rw [ckE_star] at h; cases h.1
    rw [star_of ne, List.any_cons, ckS_star h.2]; rfl
theorem back_any {pos : Pos} {l : List (Bool × Sem Value)} : (backTo pos l).any (·.1) = l.any (·.1) := by
  unfold backTo
  rw [List.any_map]; rfl
end PL

namespace PL
open L2 PyProof.Rows PySem.Spec PySem
section
variable {c : Ck} {N : List Str} {sc : Scope} {e : Expr}
theorem iv_var {i : Nat} (h : ckE c N sc (.var i) e = true) : ∃ x p, e = .Name x p ∧ N[i]? = some x ∧ visB sc x = true ∧ nmB x = true := by
  cases e <;> first | exact Bool.noConfusion h | skip
  rename_i x p
  have h : (decide (N[i]? = some x) && (visB sc x && nmB x)) = true := h
  (simp only [Bool.and_eq_true, decide_eq_true_eq] at h)
  exact ⟨_, _, rfl, h.1, h.2.1, h.2.2⟩
theorem iv_con {d : D} (h : ckE c N sc (.con d) e = true) : ∃ k j p, e = .Constant k j p ∧ conB d k = true := by
  cases e <;> first | exact Bool.noConfusion h | exact ⟨_, _, _, rfl, h⟩
theorem iv_glob {j : Nat} (h : ckE c N sc (.glob j) e = true) : ∃ x p q, e = .Name x p ∧ c.cst[j]? = some q ∧ q.1 = x ∧ flat q.2 = true ∧ glB sc x = true ∧ nmB x = true := by
  cases e <;> first | exact Bool.noConfusion h | skip
  rename_i x p
  have h : ((match c.cst[j]? with | some p => decide (p.1 = x) && flat p.2 | none => false) && (glB sc x && nmB x)) = true := h
  cases q : c.cst[j]? with
  | none => rw [q] at h; cases h
  | some z =>
    rw [q] at h
    (simp only [Bool.and_eq_true, decide_eq_true_eq] at h)
    exact ⟨x, p, z, rfl, rfl, h.1.1, h.1.2, h.2.1, h.2.2⟩
theorem iv_bin {o : Operator} {a b : IE} (h : ckE c N sc (.bin o a b) e = true) : ∃ l r p, e = .BinOp l o r p ∧ ckE c N sc a l = true ∧ ckE c N sc b r = true := by
  cases e <;> first | exact Bool.noConfusion h | skip
  rename_i l op r p
  have h : (decide (o = op) && (ckE c N sc a l && ckE c N sc b r)) = true := h
  (simp only [Bool.and_eq_true, decide_eq_true_eq] at h)
  obtain ⟨rfl, h1, h2⟩ := h
  exact ⟨_, _, _, rfl, h1, h2⟩
theorem iv_rep {a b : IE} (h : ckE c N sc (.rep a b) e = true) : ∃ l r p, e = .BinOp l .Mult r p ∧ frE c a = true ∧ ckE c N sc a l = true ∧ ckE c N sc b r = true := by
  cases e <;> first | exact Bool.noConfusion h | skip
  rename_i l op r p
  have h : (decide (op = .Mult) && (frE c a && (ckE c N sc a l && ckE c N sc b r))) = true := h
  (simp only [Bool.and_eq_true, decide_eq_true_eq] at h)
  obtain ⟨rfl, h1, h2, h3⟩ := h
  exact ⟨_, _, _, rfl, h1, h2, h3⟩
theorem iv_neg {a : IE} (h : ckE c N sc (.neg a) e = true) : ∃ l p, e = .UnaryOp .USub l p ∧ ckE c N sc a l = true := by
  cases e <;> first | exact Bool.noConfusion h | skip
  rename_i op l p
  have h : (decide (op = .USub) && ckE c N sc a l) = true := h
  (simp only [Bool.and_eq_true, decide_eq_true_eq] at h)
  obtain ⟨rfl, h1⟩ := h
  exact ⟨_, _, rfl, h1⟩
theorem iv_not {a : IE} (h : ckE c N sc (.not a) e = true) : ∃ l p, e = .UnaryOp .Not l p ∧ ckE c N sc a l = true := by
  cases e <;> first | exact Bool.noConfusion h | skip
  rename_i op l p
  have h : (decide (op = .Not) && ckE c N sc a l) = true := h
  (simp only [Bool.and_eq_true, decide_eq_true_eq] at h)
  obtain ⟨rfl, h1⟩ := h
  exact ⟨_, _, rfl, h1⟩
theorem iv_and {a : Es} (h : ckE c N sc (.and a) e = true) : ∃ l p, e = .BoolOp .And l p ∧ ckS c N sc a l = true := by
  cases e <;> first | exact Bool.noConfusion h | skip
  rename_i op l p
  have h : (decide (op = .And) && ckS c N sc a l) = true := h
  (simp only [Bool.and_eq_true, decide_eq_true_eq] at h)
  obtain ⟨rfl, h1⟩ := h
  exact ⟨_, _, rfl, h1⟩
theorem iv_or {a : Es} (h : ckE c N sc (.or a) e = true) : ∃ l p, e = .BoolOp .Or l p ∧ ckS c N sc a l = true := by
  cases e <;> first | exact Bool.noConfusion h | skip
  rename_i op l p
  have h : (decide (op = .Or) && ckS c N sc a l) = true := h
  (simp only [Bool.and_eq_true, decide_eq_true_eq] at h)
  obtain ⟨rfl, h1⟩ := h
  exact ⟨_, _, rfl, h1⟩
theorem iv_cmp {o : CmpOp} {a b : IE} (h : ckE c N sc (.cmp o a b) e = true) : ∃ l r p, e = .Compare l [o] [r] p ∧ behindInMarks o r = false ∧ ckE c N sc a l = true ∧ ckE c N sc b r = true := by
  cases e <;> first | exact Bool.noConfusion h | skip
  rename_i l ops rs p
  match ops, rs, h with
  | [op], [r], h =>
    have h : (decide (o = op) && (!(behindInMarks op r) && (ckE c N sc a l && ckE c N sc b r))) = true := h
    simp only [Bool.and_eq_true, decide_eq_true_eq, Bool.not_eq_true'] at h
    obtain ⟨rfl, h1, h2, h3⟩ := h
    exact ⟨_, _, _, rfl, h1, h2, h3⟩
  | [], _, h => exact Bool.noConfusion h
  | [_], [], h => exact Bool.noConfusion h
  | [_], _ :: _ :: _, h => exact Bool.noConfusion h
  | _ :: _ :: _, _, h => exact Bool.noConfusion h
theorem iv_cmp2 {o q : CmpOp} {a b d : IE} (h : ckE c N sc (.cmp2 o q a b d) e = true) : ∃ l r r2 p, e = .Compare l [o, q] [r, r2] p ∧ lastMarks [o, q] [r, r2] = false ∧ ckE c N sc a l = true ∧ ckE c N sc b r = true ∧ ckE c N sc d r2 = true := by
  cases e <;> first | exact Bool.noConfusion h | skip
  rename_i l ops rs p
  match ops, rs, h with
  | [op, op2], [r, r2], h =>
    have h : (decide (o = op) && (decide (q = op2) && (!(lastMarks [op, op2] [r, r2]) && (ckE c N sc a l && (ckE c N sc b r && ckE c N sc d r2))))) = true := h
    simp only [Bool.and_eq_true, decide_eq_true_eq, Bool.not_eq_true'] at h
    obtain ⟨rfl, rfl, h1, h2, h3, h4⟩ := h
    exact ⟨_, _, _, _, rfl, h1, h2, h3, h4⟩
  | [], _, h => exact Bool.noConfusion h
  | [_], _, h => exact Bool.noConfusion h
  | [_, _], [], h => exact Bool.noConfusion h
  | [_, _], [_], h => exact Bool.noConfusion h
  | [_, _], _ :: _ :: _ :: _, h => exact Bool.noConfusion h
  | _ :: _ :: _ :: _, _, h => exact Bool.noConfusion h
theorem iv_cmp3 {o q q3 : CmpOp} {a b d f : IE} (h : ckE c N sc (.cmp3 o q q3 a b d f) e = true) : ∃ l r r2 r3 p, e = .Compare l [o, q, q3] [r, r2, r3] p ∧ lastMarks [o, q, q3] [r, r2, r3] = false ∧
    ckE c N sc a l = true ∧ ckE c N sc b r = true ∧ ckE c N sc d r2 = true ∧ ckE c N sc f r3 = true := by
  cases e <;> first | exact Bool.noConfusion h | skip
  rename_i l ops rs p
  match ops, rs, h with
  | [op, op2, op3], [r, r2, r3], h =>
    have h : (decide (o = op) && (decide (q = op2) && (decide (q3 = op3) && (!(lastMarks [op, op2, op3] [r, r2, r3]) && (ckE c N sc a l && (ckE c N sc b r && (ckE c N sc d r2 && ckE c N sc f r3))))))) = true := h
    simp only [Bool.and_eq_true, decide_eq_true_eq, Bool.not_eq_true'] at h
    obtain ⟨rfl, rfl, rfl, h1, h2, h3, h4, h5⟩ := h
    exact ⟨_, _, _, _, _, rfl, h1, h2, h3, h4, h5⟩
  | [], _, h => exact Bool.noConfusion h
  | [_], _, h => exact Bool.noConfusion h
  | [_, _], _, h => exact Bool.noConfusion h
  | [_, _, _], [], h => exact Bool.noConfusion h
  | [_, _, _], [_], h => exact Bool.noConfusion h
  | [_, _, _], [_, _], h => exact Bool.noConfusion h
  | [_, _, _], _ :: _ :: _ :: _ :: _, h => exact Bool.noConfusion h
  | _ :: _ :: _ :: _ :: _, _, h => exact Bool.noConfusion h
theorem iv_ifx {t a b : IE} (h : ckE c N sc (.ifx t a b) e = true) : ∃ l r r2 p, e = .IfExp l r r2 p ∧ ckE c N sc t l = true ∧ ckE c N sc a r = true ∧ ckE c N sc b r2 = true := by
  cases e <;> first | exact Bool.noConfusion h | skip
  rename_i l r r2 p
  have h : (ckE c N sc t l && (ckE c N sc a r && ckE c N sc b r2)) = true := h
  (simp only [Bool.and_eq_true] at h)
  exact ⟨_, _, _, _, rfl, h.1, h.2.1, h.2.2⟩
theorem iv_tup {es : Es} (h : ckE c N sc (.tup es) e = true) : ∃ l k p, e = .Tuple l k p ∧ lenS es ≤ 1000 ∧ ckS c N sc es l = true := by
  cases e <;> first | exact Bool.noConfusion h | skip
  rename_i l k p
  have h : (decide (lenS es ≤ 1000) && ckS c N sc es l) = true := h
  (rw [Bool.and_eq_true, decide_eq_true_eq] at h)
  exact ⟨_, _, _, rfl, h⟩
theorem iv_lst {es : Es} (h : ckE c N sc (.lst es) e = true) : ∃ l p, e = .List l p ∧ lenS es ≤ 1000 ∧ ckS c N sc es l = true := by
  cases e <;> first | exact Bool.noConfusion h | skip
  rename_i l p
  have h : (decide (lenS es ≤ 1000) && ckS c N sc es l) = true := h
  (rw [Bool.and_eq_true, decide_eq_true_eq] at h)
  exact ⟨_, _, rfl, h⟩
theorem iv_slc {a : IE} {lo hi : IO} (h : ckE c N sc (.slc a lo hi) e = true) : ∃ o l u p2 p, e = .Subscript o (.Slice l u none p2) p ∧ ckE c N sc a o = true ∧ ckO c N sc lo l = true ∧ ckO c N sc hi u = true := by
  cases e <;> first | exact Bool.noConfusion h | skip
  rename_i o ix p
  cases ix <;> first | exact Bool.noConfusion h | skip
  rename_i l u st p2
  cases st with
  | some _ => exact Bool.noConfusion h
  | none =>
    have h : (ckE c N sc a o && (ckO c N sc lo l && ckO c N sc hi u)) = true := h
    (simp only [Bool.and_eq_true] at h)
    exact ⟨_, _, _, _, _, rfl, h.1, h.2.1, h.2.2⟩
theorem iv_sub {a i : IE} (h : ckE c N sc (.sub a i) e = true) : ∃ o ix p, e = .Subscript o ix p ∧ ckE c N sc a o = true ∧ ckE c N sc i ix = true := by
  cases e <;> first | exact Bool.noConfusion h | skip
  rename_i o ix p
  have h : (ckE c N sc a o && ckE c N sc i ix) = true := by cases ix <;> first | exact h | (rename_i st _; cases st <;> exact h)
  (simp only [Bool.and_eq_true] at h)
  exact ⟨_, _, _, rfl, h.1, h.2⟩
theorem iv_isi {a : IE} {t : String} (h : ckE c N sc (.isi a t) e = true) : ∃ f p1 x y p2 p, e = .Call (.Name f p1) [x, .Name y p2] [] p ∧ f = "isinstance" ∧ bltB c sc f = true ∧ y = Str.ofString t ∧ tyB t = true ∧ bltB c sc y = true ∧ ckE c N sc a x = true := by
  cases e <;> first | exact Bool.noConfusion h | skip
  rename_i fn args kw p
  match fn, args, kw, h with
  | .Name f p1, [x, .Name y p2], [], h =>
    have h : (decide (f = "isinstance") && (bltB c sc f && (decide (y = Str.ofString t) && (tyB t && (bltB c sc y && ckE c N sc a x))))) = true := h
    (simp only [Bool.and_eq_true, decide_eq_true_eq] at h)
    exact ⟨_, _, _, _, _, _, rfl, h.1, h.2.1, h.2.2.1, h.2.2.2.1, h.2.2.2.2.1, h.2.2.2.2.2⟩
theorem iv_bi {f : B} {es : Es} (h : ckE c N sc (.bi f es) e = true) : ∃ x p1 l p, e = .Call (.Name x p1) l [] p ∧ (f.hot = false → c.hot = false) ∧ f.ok = true ∧ x = f.name ∧ bltB c sc x = true ∧ 0 < lenS es ∧ ckS c N sc es l = true := by
  cases e <;> first | exact Bool.noConfusion h | skip
  rename_i fn args kw p
  cases fn <;> first | exact Bool.noConfusion h | skip
  rename_i x p1
  cases kw with
  | cons _ _ => exact Bool.noConfusion h
  | nil =>
    have h : ((!c.hot || f.hot) && (f.ok && (decide (x = f.name) && (bltB c sc x && (decide (0 < lenS es) && ckS c N sc es args))))) = true := h
    (simp only [Bool.and_eq_true, decide_eq_true_eq] at h)
    exact ⟨_, _, _, _, rfl, (fun z => by rw [z] at h; cases q : c.hot with | false => rfl | true => rw [q] at h; cases h.1), h.2.1, h.2.2.1, h.2.2.2.1, h.2.2.2.2.1, h.2.2.2.2.2⟩
theorem iv_lrev {a : IE} (h : ckE c N sc (.lrev a) e = true) : ∃ p1 p2 q p3 p, e = .Call (.Name "list" p1) [.Call (.Name "reversed" p2) [q] [] p3] [] p ∧ bltB c sc "list" = true ∧ bltB c sc "reversed" = true ∧ ckE c N sc a q = true ∧ c.hot = false := by
  have h : (match shNest e with
      | some (x, _, y, _, [q], _, _) => !c.hot && (decide (x = "list") && (bltB c sc x && (decide (y = "reversed") && (bltB c sc y && ckE c N sc a q))))
      | _ => false) = true := h
  cases es : shNest e with
  | none => rw [es] at h; exact Bool.noConfusion h
  | some z =>
    obtain ⟨x, p1, y, p2, l, p3, p⟩ := z
    rw [es] at h
    match l, h with
    | [q], h =>
      have h : (!c.hot && (decide (x = "list") && (bltB c sc x && (decide (y = "reversed") && (bltB c sc y && ckE c N sc a q))))) = true := h
      simp only [Bool.and_eq_true, decide_eq_true_eq, Bool.not_eq_true'] at h
      obtain ⟨h0, rfl, h1, rfl, h2, h3⟩ := h
      exact ⟨_, _, _, _, _, shNest_ok es, h1, h2, h3, h0⟩
theorem iv_fls {a : IE} (h : ckE c N sc (.fls a) e = true) : (∃ f l kw p, e = .Call f l kw p) ∧ frE c a = true ∧ ckE c N sc a e = true := by
  cases e <;> first | exact Bool.noConfusion h | skip
  rename_i f l kw p
  have h : (frE c a && ckE c N sc a (.Call f l kw p)) = true := h
  rw [Bool.and_eq_true] at h
  exact ⟨⟨_, _, _, _, rfl⟩, h.1, h.2⟩
theorem iv_sset {a : IE} (h : ckE c N sc (.sset a) e = true) : ∃ p1 p2 q p3 p, e = .Call (.Name "sorted" p1) [.Call (.Name "set" p2) [q] [] p3] [] p ∧ bltB c sc "sorted" = true ∧ bltB c sc "set" = true ∧ ckE c N sc a q = true ∧ c.hot = false := by
  have h : (match shNest e with
      | some (x, _, y, _, [q], _, _) => !c.hot && (decide (x = "sorted") && (bltB c sc x && (decide (y = "set") && (bltB c sc y && ckE c N sc a q))))
      | _ => false) = true := h
  cases es : shNest e with
  | none => rw [es] at h; exact Bool.noConfusion h
  | some z =>
    obtain ⟨x, p1, y, p2, l, p3, p⟩ := z
    rw [es] at h
    match l, h with
    | [q], h =>
      have h : (!c.hot && (decide (x = "sorted") && (bltB c sc x && (decide (y = "set") && (bltB c sc y && ckE c N sc a q))))) = true := h
      simp only [Bool.and_eq_true, decide_eq_true_eq, Bool.not_eq_true'] at h
      obtain ⟨h0, rfl, h1, rfl, h2, h3⟩ := h
      exact ⟨_, _, _, _, _, shNest_ok es, h1, h2, h3, h0⟩
theorem iv_idx {a b : IE} (h : ckE c N sc (.idx a b) e = true) : ∃ o ap q p, e = .Call (.Attribute o "index" ap) [q] [] p ∧ (ap.endLine == p.line) = true ∧ isNm o = true ∧ ckE c N sc a o = true ∧ ckE c N sc b q = true := by
  have h : (match shMeth e with
      | some (o, m, ap, [q], p) => decide (m = "index") && ((ap.endLine == p.line) && (isNm o && (ckE c N sc a o && ckE c N sc b q)))
      | _ => false) = true := h
  cases es : shMeth e with
  | none => rw [es] at h; exact Bool.noConfusion h
  | some z =>
    obtain ⟨o, m, ap, l, p⟩ := z
    rw [es] at h
    match l, h with
    | [q], h =>
      have h : (decide (m = "index") && ((ap.endLine == p.line) && (isNm o && (ckE c N sc a o && ckE c N sc b q)))) = true := h
      rw [Bool.and_eq_true, Bool.and_eq_true, Bool.and_eq_true, Bool.and_eq_true, decide_eq_true_eq] at h
      obtain ⟨rfl, h1, h2, h3, h4⟩ := h
      exact ⟨_, _, _, _, shMeth_ok es, h1, h2, h3, h4⟩
theorem iv_u0 {t : Bool} (h : ckE c N sc (.u0 t) e = true) : ∃ p, e = .Dict [] [] p := by
  cases e <;> first | exact Bool.noConfusion h | skip
  rename_i ks vs p
  match ks, vs, h with
  | [], [], h => exact ⟨_, rfl⟩
  | [], _ :: _, h => exact Bool.noConfusion h
  | _ :: _, _, h => exact Bool.noConfusion h
theorem iv_lrg1 {a : IE} (h : ckE c N sc (.u1 .lrg1 a) e = true) : ∃ p1 p2 q p3 p, e = .Call (.Name "list" p1) [.Call (.Name "range" p2) [q] [] p3] [] p ∧ bltB c sc "list" = true ∧ bltB c sc "range" = true ∧ ckE c N sc a q = true ∧ c.hot = false := by
  have h : (match shNest e with
      | some (x, _, y, _, [q], _, _) => !c.hot && (decide (x = "list") && (bltB c sc x && (decide (y = "range") && (bltB c sc y && ckE c N sc a q))))
      | _ => false) = true := h
  cases es : shNest e with
  | none => rw [es] at h; exact Bool.noConfusion h
  | some z =>
    obtain ⟨x, p1, y, p2, l, p3, p⟩ := z
    rw [es] at h
    match l, h with
    | [q], h =>
      have h : (!c.hot && (decide (x = "list") && (bltB c sc x && (decide (y = "range") && (bltB c sc y && ckE c N sc a q))))) = true := h
      simp only [Bool.and_eq_true, decide_eq_true_eq, Bool.not_eq_true'] at h
      obtain ⟨h0, rfl, h1, rfl, h2, h3⟩ := h
      exact ⟨_, _, _, _, _, shNest_ok es, h1, h2, h3, h0⟩
theorem iv_rvs {a : IE} (h : ckE c N sc (.u1 .rvs a) e = true) : ∃ q k p1 p2 p3 pos, e = .Subscript q (.Slice none none (some (.UnaryOp .USub (.Constant (.int 1) k p1) p2)) p3) pos ∧ ckE c N sc a q = true := by
  have h : (match shRev e with
      | some q => ckE c N sc a q
      | none => false) = true := h
  cases es : shRev e with
  | none => rw [es] at h; exact Bool.noConfusion h
  | some z =>
    rw [es] at h
    obtain ⟨k, p1, p2, p3, pos, rfl⟩ := shRev_ok es
    exact ⟨_, _, _, _, _, _, rfl, h⟩
theorem iv_dcp {a : IE} (h : ckE c N sc (.u1 .dcp a) e = true) : ∃ p1 q p, e = .Call (.Name "dict" p1) [q] [] p ∧ bltB c sc "dict" = true ∧ ckE c N sc a q = true := by
  cases e <;> first | exact Bool.noConfusion h | skip
  rename_i fn args kw p
  match fn, args, kw, h with
  | .Name f p1, [x], [], h =>
    have h : (decide (f = "dict") && (bltB c sc f && ckE c N sc a x)) = true := h
    (simp only [Bool.and_eq_true, decide_eq_true_eq] at h)
    obtain ⟨rfl, h1, h2⟩ := h
    exact ⟨_, _, _, rfl, h1, h2⟩
theorem iv_strI {a : IE} (h : ckE c N sc (.u1 .strI a) e = true) : ∃ p1 q p, e = .Call (.Name "str" p1) [q] [] p ∧ bltB c sc "str" = true ∧ ckE c N sc a q = true := by
  cases e <;> first | exact Bool.noConfusion h | skip
  rename_i fn args kw p
  match fn, args, kw, h with
  | .Name f p1, [x], [], h =>
    have h : (decide (f = "str") && (bltB c sc f && ckE c N sc a x)) = true := h
    (simp only [Bool.and_eq_true, decide_eq_true_eq] at h)
    obtain ⟨rfl, h1, h2⟩ := h
    exact ⟨_, _, _, rfl, h1, h2⟩
theorem iv_dget {a b d : IE} (h : ckE c N sc (.dget a b d) e = true) : ∃ o ap q q2 p, e = .Call (.Attribute o "get" ap) [q, q2] [] p ∧ (ap.endLine == p.line) = true ∧ isNm o = true ∧ ckE c N sc a o = true ∧ ckE c N sc b q = true ∧ ckE c N sc d q2 = true := by
  have h : (match shMeth e with
      | some (o, m, ap, [q, q2], p) => decide (m = "get") && ((ap.endLine == p.line) && (isNm o && (ckE c N sc a o && (ckE c N sc b q && ckE c N sc d q2))))
      | _ => false) = true := h
  cases es : shMeth e with
  | none => rw [es] at h; exact Bool.noConfusion h
  | some z =>
    obtain ⟨o, m, ap, l, p⟩ := z
    rw [es] at h
    match l, h with
    | [q, q2], h =>
      have h : (decide (m = "get") && ((ap.endLine == p.line) && (isNm o && (ckE c N sc a o && (ckE c N sc b q && ckE c N sc d q2))))) = true := h
      rw [Bool.and_eq_true, Bool.and_eq_true, Bool.and_eq_true, Bool.and_eq_true, Bool.and_eq_true, decide_eq_true_eq] at h
      obtain ⟨rfl, h1, h2, h3, h4, h5⟩ := h
      exact ⟨_, _, _, _, _, shMeth_ok es, h1, h2, h3, h4, h5⟩
theorem iv_u1no {a : IE} {k : U1} (h1 : k ≠ .lrg1) (h2 : k ≠ .rvs) (h3 : k ≠ .dcp) (h4 : k ≠ .strI) (h : ckE c N sc (.u1 k a) e = true) : False := by
  cases k <;> first | exact h1 rfl | exact h2 rfl | exact h3 rfl | exact h4 rfl
theorem iv_u2no {a b : IE} {k : U2} (h1 : k ≠ .cnt) (h2 : k ≠ .dlit) (h : ckE c N sc (.u2 k a b) e = true) : False := by
  cases k with
  | cnt => exact h1 rfl
  | dlit => exact h2 rfl
  | maxd => cases e <;> exact Bool.noConfusion h
  | mind => cases e <;> exact Bool.noConfusion h
theorem iv_cnt {a b : IE} (h : ckE c N sc (.u2 .cnt a b) e = true) : ∃ o ap q p, e = .Call (.Attribute o "count" ap) [q] [] p ∧ (ap.endLine == p.line) = true ∧ isNm o = true ∧ ckE c N sc a o = true ∧ ckE c N sc b q = true ∧ atomE b = true := by
  have h : (match shMeth e with
      | some (o, m, ap, [q], p) => decide (m = "count") && ((ap.endLine == p.line) && (isNm o && (atomE b && (ckE c N sc a o && ckE c N sc b q))))
      | _ => false) = true := h
  cases es : shMeth e with
  | none => rw [es] at h; exact Bool.noConfusion h
  | some z =>
    obtain ⟨o, m, ap, l, p⟩ := z
    rw [es] at h
    match l, h with
    | [q], h =>
      have h : (decide (m = "count") && ((ap.endLine == p.line) && (isNm o && (atomE b && (ckE c N sc a o && ckE c N sc b q))))) = true := h
      rw [Bool.and_eq_true, Bool.and_eq_true, Bool.and_eq_true, Bool.and_eq_true, Bool.and_eq_true, decide_eq_true_eq] at h
      obtain ⟨rfl, h1, h2, h5, h3, h4⟩ := h
      exact ⟨_, _, _, _, shMeth_ok es, h1, h2, h3, h4, h5⟩
theorem iv_dlit {a b : IE} (h : ckE c N sc (.u2 .dlit a b) e = true) : ∃ k v p, e = .Dict [some k] [v] p ∧ ckE c N sc a k = true ∧ ckE c N sc b v = true := by
  cases e <;> first | exact Bool.noConfusion h | skip
  rename_i ks vs p
  match ks, vs, h with
  | [some k], [v], h =>
    have h : (ckE c N sc a k && ckE c N sc b v) = true := h
    rw [Bool.and_eq_true] at h
    exact ⟨_, _, _, rfl, h.1, h.2⟩
  | [], _, h => exact Bool.noConfusion h
  | [none], _, h => exact Bool.noConfusion h
  | [some _], [], h => exact Bool.noConfusion h
  | [some _], _ :: _ :: _, h => exact Bool.noConfusion h
  | none :: _ :: _, _, h => exact Bool.noConfusion h
  | some _ :: _ :: _, _, h => exact Bool.noConfusion h
theorem iv_exIs {i : Nat} {cs : List Str} (h : ckE c N sc (.exIs i cs) e = true) : ∃ p1 x p2 t p, e = .Call (.Name "isinstance" p1) [.Name x p2, t] [] p ∧ bltB c sc "isinstance" = true ∧ N[i]? = some x ∧ visB sc x = true ∧ nmB x = true ∧ clsT c sc cs t = true := by
  have h : (match shIs e with
      | some ((f, _, x, _), t, _) => decide (f = "isinstance") && (bltB c sc f && (decide (N[i]? = some x) && (visB sc x && (nmB x && clsT c sc cs t))))
      | none => false) = true := h
  cases es : shIs e with
  | none => rw [es] at h; exact Bool.noConfusion h
  | some z =>
    obtain ⟨⟨f, p1, x, p2⟩, t, p⟩ := z
    rw [es] at h
    have h : (decide (f = "isinstance") && (bltB c sc f && (decide (N[i]? = some x) && (visB sc x && (nmB x && clsT c sc cs t))))) = true := h
    (simp only [Bool.and_eq_true, decide_eq_true_eq] at h)
    obtain ⟨rfl, h1, h2, h3, h4, h5⟩ := h
    exact ⟨_, _, _, _, _, shIs_ok es, h1, h2, h3, h4, h5⟩
theorem iv_exAt {i : Nat} {f : Str} (h : ckE c N sc (.exAt i f) e = true) : ∃ x p2 p, e = .Attribute (.Name x p2) f p ∧ N[i]? = some x ∧ visB sc x = true ∧ nmB x = true := by
  cases e <;> first | exact Bool.noConfusion h | skip
  rename_i o g p
  cases o <;> first | exact Bool.noConfusion h | skip
  rename_i x p2
  have h : (decide (N[i]? = some x) && (visB sc x && (nmB x && decide (f = g)))) = true := h
  (simp only [Bool.and_eq_true, decide_eq_true_eq] at h)
  obtain ⟨h1, h2, h3, rfl⟩ := h
  exact ⟨_, _, _, rfl, h1, h2, h3⟩
theorem iv_lrg {a b : IE} (h : ckE c N sc (.lrg a b) e = true) : ∃ p1 p2 q q2 p3 p, e = .Call (.Name "list" p1) [.Call (.Name "range" p2) [q, q2] [] p3] [] p ∧ bltB c sc "list" = true ∧ bltB c sc "range" = true ∧ ckE c N sc a q = true ∧ ckE c N sc b q2 = true ∧ c.hot = false := by
  have h : (match shNest e with
      | some (x, _, y, _, [q, q2], _, _) => !c.hot && (decide (x = "list") && (bltB c sc x && (decide (y = "range") && (bltB c sc y && (ckE c N sc a q && ckE c N sc b q2)))))
      | _ => false) = true := h
  cases es : shNest e with
  | none => rw [es] at h; exact Bool.noConfusion h
  | some z =>
    obtain ⟨x, p1, y, p2, l, p3, p⟩ := z
    rw [es] at h
    match l, h with
    | [q, q2], h =>
      have h : (!c.hot && (decide (x = "list") && (bltB c sc x && (decide (y = "range") && (bltB c sc y && (ckE c N sc a q && ckE c N sc b q2)))))) = true := h
      simp only [Bool.and_eq_true, decide_eq_true_eq, Bool.not_eq_true'] at h
      obtain ⟨h0, rfl, h1, rfl, h2, h3, h4⟩ := h
      exact ⟨_, _, _, _, _, _, shNest_ok es, h1, h2, h3, h4, h0⟩
theorem iv_call {j : Nat} {es : Es} {ds : List D} {fl : Bool} (h : ckE c N sc (.call j es ds fl) e = true) : ∃ x p1 l p d, e = .Call (.Name x p1) l [] p ∧ c.fs[j]? = some d ∧ d.nm = x ∧ lenS es ≤ d.ps ∧ d.ps ≤ lenS es + d.dfl.length ∧
    lenS es + ds.length = d.ps ∧ ds.all flatD = true ∧ ds = d.dfl.drop (lenS es + d.dfl.length - d.ps) ∧ glB sc x = true ∧ nmB x = true ∧ ckS c N sc es l = true ∧ (c.hot = true → hotB c j es ds = true) := by
  cases e <;> first | exact Bool.noConfusion h | skip
  rename_i fn args kw p
  cases fn <;> first | exact Bool.noConfusion h | skip
  rename_i x p1
  cases kw with
  | cons _ _ => exact Bool.noConfusion h
  | nil =>
    have h : ((match c.fs[j]? with
      | some d => decide (d.nm = x) && (decide (lenS es ≤ d.ps) && (decide (d.ps ≤ lenS es + d.dfl.length) && (decide (lenS es + ds.length = d.ps) && (ds.all flatD && eqDs ds (d.dfl.drop (lenS es + d.dfl.length - d.ps))))))
      | none => false) && ((!c.hot || hotB c j es ds) && (glB sc x && (nmB x && ckS c N sc es args)))) = true := h
    cases q : c.fs[j]? with
    | none => rw [q] at h; cases h
    | some z =>
      rw [q] at h
      (simp only [Bool.and_eq_true, decide_eq_true_eq] at h)
      obtain ⟨⟨h1, h2, h3, h4, h5, h6⟩, h0, h7, h8, h9⟩ := h
      exact ⟨x, p1, args, p, z, rfl, rfl, h1, h2, h3, h4, h5, eqDs_ok h6, h7, h8, h9, fun y => by rw [y] at h0; exact h0⟩
theorem iv_callk {j : Nat} {es : Es} {a : IE} (h : ckE c N sc (.callk j es a) e = true) : ∃ x p1 l nm v kp p d, e = .Call (.Name x p1) l [⟨some nm, v, kp⟩] p ∧ c.fs[j]? = some d ∧ d.nm = x ∧ d.kw = true ∧ lenS es + 1 = d.ps ∧ (d.ns.take d.ps).getLast? = some nm ∧
    glB sc x = true ∧ nmB x = true ∧ 0 < lenS es ∧ ckS c N sc es l = true ∧ ckE c N sc a v = true ∧ c.hot = false := by
  have h : (match shCallK e with
      | some (x, _, l, (nm, v, _), _) => !c.hot && ((match c.fs[j]? with
        | some d => decide (d.nm = x) && (d.kw && (decide (lenS es + 1 = d.ps) && decide ((d.ns.take d.ps).getLast? = some nm)))
        | none => false) && (glB sc x && (nmB x && (decide (0 < lenS es) && (ckS c N sc es l && ckE c N sc a v)))))
      | none => false) = true := h
  cases es' : shCallK e with
  | none => rw [es'] at h; exact Bool.noConfusion h
  | some z =>
    obtain ⟨x, p1, l, ⟨nm, v, kp⟩, p⟩ := z
    rw [es'] at h
    have h : (!c.hot && ((match c.fs[j]? with
        | some d => decide (d.nm = x) && (d.kw && (decide (lenS es + 1 = d.ps) && decide ((d.ns.take d.ps).getLast? = some nm)))
        | none => false) && (glB sc x && (nmB x && (decide (0 < lenS es) && (ckS c N sc es l && ckE c N sc a v)))))) = true := h
    rw [Bool.and_eq_true, Bool.not_eq_true'] at h
    obtain ⟨h0, h⟩ := h
    cases q : c.fs[j]? with
    | none => rw [q] at h; cases h
    | some d =>
      rw [q] at h
      (simp only [Bool.and_eq_true, decide_eq_true_eq] at h)
      obtain ⟨⟨h1, h2, h3, h4⟩, h5, h6, h7, h8, h9⟩ := h
      exact ⟨x, p1, l, nm, v, kp, p, d, shCallK_ok es', rfl, h1, h2, h3, h4, h5, h6, h7, h8, h9, h0⟩
/-- a comprehension's test -/
def ckC (c : Ck) (N : List Str) (sc : Scope) : IO → List Expr → Bool
  | .none, [] => true
  | .some x, [y] => ckE c N sc x y
  | _, _ => false
theorem iv_comp {own : List Nat} {x : IE} {t : IT} {it : II} {o : IO} (h : ckE c N sc (.comp own x t it o) e = true) : ∃ elt tg iter ifs scope p, e = .ListComp elt [⟨tg, iter, ifs, 0⟩] scope p ∧ blkC N sc scope (ownN N own) = true ∧
    (ownN N own).map (·.2) = own ∧ ckI c N sc it iter (isTup tg) = true ∧ ckT N (relS scope sc) t tg = true ∧ lclT N (relS scope sc) own t = true ∧ ckE c N (relS scope sc) x elt = true ∧ ckC c N (relS scope sc) o ifs = true ∧ c.hot = false := by
  cases e <;> first | exact Bool.noConfusion h | skip
  rename_i elt gens scope p
  match gens, h with
  | [], h => exact Bool.noConfusion h
  | ⟨_, _, _, _⟩ :: _ :: _, h => exact Bool.noConfusion h
  | [⟨tg, iter, ifs, as⟩], h =>
    have h : (!c.hot && (decide (as = 0) && (blkC N sc scope (ownN N own) && (decide ((ownN N own).map (·.2) = own) && (ckI c N sc it iter (isTup tg) && (ckT N (relS scope sc) t tg && (lclT N (relS scope sc) own t &&
      (ckE c N (relS scope sc) x elt && ckC c N (relS scope sc) o ifs)))))))) = true := by
      cases o <;> match ifs, h with
        | [], h => exact h
        | [_], h => exact h
        | _ :: _ :: _, h => exact h
    simp only [Bool.and_eq_true, decide_eq_true_eq, Bool.not_eq_true'] at h
    obtain ⟨h0, rfl, h1, h2, h3, h4, h5, h6, h7⟩ := h
    exact ⟨_, _, _, _, _, _, rfl, h1, h2, h3, h4, h5, h6, h7, h0⟩
end
end PL

namespace PL
open L2 PyProof.Rows PySem.Spec PySem

theorem binD_ex {o : Operator} {d e z : D} (h : binD o d e = .ex z) : False := by
  unfold binD at h
  split at h <;> (try split at h) <;> (try split at h) <;> cases h
theorem repD_ex {d e z : D} (h : repD d e = .ex z) : False := by
  unfold repD at h
  split at h <;> (try split at h) <;> cases h
theorem eqR_ex {d e z : D} (h : eqR d e = .ex z) : False := by
  unfold eqR at h
  split at h <;> cases h
theorem neR_ex {d e z : D} (h : neR d e = .ex z) : False := by
  unfold neR at h
  split at h
  · split at h <;> cases h
  · cases h
theorem cmpD_ex {o : CmpOp} {d e z : D} (h : cmpD o d e = .ex z) : False := by
  unfold cmpD at h
  split at h <;> (try split at h) <;> first | cases h | exact eqR_ex h | exact neR_ex h
theorem subD_ex {d e z : D} (h : subD d e = .ex z) : False := by
  unfold subD at h
  split at h <;> (try split at h) <;> (try split at h) <;> cases h
theorem slcD_ex {d z : D} {l u : Option Int} (h : slcD d l u = .ex z) : False := by
  unfold slcD at h
  split at h <;> cases h
theorem isiD_ex {d z : D} {t : String} (h : isiD d t = .ex z) : False := by
  unfold isiD at h
  split at h <;> (try split at h) <;> (try split at h) <;> cases h
theorem biD_ex {f : B} {ds : List D} {z : D} (h : biD f ds = .ex z) : False := by
  unfold biD at h
  split at h <;> (try split at h) <;> (try split at h) <;> (try split at h) <;> cases h
theorem negD_ex {d z : D} (h : negD d = .ex z) : False := by
  unfold negD at h
  split at h <;> cases h
theorem toB_ex {d z : D} (h : toB d = .ex z) : False := by
  unfold toB at h
  split at h <;> cases h
theorem intD_ex {d z : D} (h : intD d = .ex z) : False := by
  unfold intD at h
  split at h <;> cases h
theorem Sat.val {α : Type} {r : R α} {ok : α → Prop} {ex : D → Prop} (h : Sat r ok ex) (n : ∀ z, r = .ex z → False) : ∃ a, r = .ok a ∧ ok a := by
  cases r with
  | ok a => exact ⟨a, rfl, h⟩
  | ex z => exact (n z rfl).elim
  | no => exact h.elim
theorem toB_ok {d : D} {b : Bool} (h : toB d = .ok b) : d = .bl b := by
  unfold toB at h
  split at h <;> cases h; rfl
theorem intD_ok {d : D} {b : Int} (h : intD d = .ok b) : d = .int b := by
  unfold intD at h
  split at h <;> cases h; rfl
theorem listD_ok {d : D} {b : List D} (h : listD d = .ok b) : d = .lst b := by
  unfold listD at h
  split at h <;> cases h; rfl

section
variable {K : PySem.W.Frag} {Mt Mi M : AS} {H H' H1 : Hp}
def okE (K : PySem.W.Frag) (fr : Bool) (Mt Mi : AS) (H : Hp) (Q : VK) : D → Prop := fun d => ∀ v H', Same H H' → Res K fr Mt Mi H H' d v → Q v H'
def exE (xl : List (Str × Option Str)) (K : PySem.W.Frag) (W : WX) (σ : L2.St) (H : Hp) : D → Prop := fun x => ∀ H' cls dx, Same H H' → XR xl K x cls dx H' → W cls dx σ H'
theorem exE.same {xl : List (Str × Option Str)} {W : WX} {σ : L2.St} {x : D} (s : Same H H1) (h : exE xl K W σ H x) : exE xl K W σ H1 x := fun H' cls dx s' q => h H' cls dx (s.trans s') q
theorem Res.flatI {fr : Bool} {d : D} {v : V} (f : PL.flat d = true) (h : Rep K M H' d v) : Res K fr Mt Mi H H' d v := by
  unfold Res
  split
  · cases d <;> first | exact Rep.flat_any (M := M) _ _ f h | cases f
  · cases d <;> first | exact Rep.flat_any (M := M) _ _ f h | cases f
theorem Res.of_rep {d : D} {v : V} (h : RepT K Mt Mi H' d v) : Res K false Mt Mi H H' d v := h
theorem Res.fr {d : D} {v : V} (h : Res K true Mt Mi H H' d v) : FrT K Mi H H' d v := h
theorem FrT.less {Mi' : AS} {d : D} {v : V} (l : ∀ a, Mi' a → Mi a) (h : FrT K Mi H H' d v) : FrT K Mi' H H' d v := by
  have l2 : ∀ x a, Mi' a ∨ a = x → Mi a ∨ a = x := fun x a z => z.imp (l a) id
  cases d <;> first
    | exact Rep.less l h
    | (obtain ⟨a, vs, e, h1, h2, h3⟩ := h; exact ⟨a, vs, e, h1, h2, Reps.less (l2 a) h3⟩)
    | (obtain ⟨a, vs, e, h1, h2, h4, h3⟩ := h; exact ⟨a, vs, e, h1, h2, h4, Reps.less (l2 a) h3⟩)
theorem FrT.back {d : D} {v : V} (s : Same H H1) (h : FrT K Mi H1 H' d v) : FrT K Mi H H' d v := by
  cases d <;> first
    | exact h
    | (obtain ⟨a, vs, e, h1, h2, h3⟩ := h; exact ⟨a, vs, e, s.free h1, h2, h3⟩)
    | (obtain ⟨a, vs, e, h1, h2, h4, h3⟩ := h; exact ⟨a, vs, e, s.free h1, h2, h4, h3⟩)
theorem Res.back {fr : Bool} {d : D} {v : V} (s : Same H H1) (h : Res K fr Mt Mi H1 H' d v) : Res K fr Mt Mi H H' d v := by
  unfold Res at h ⊢
  split at h
  · rename_i e; rw [if_pos e]; exact FrT.back s h
  · rename_i e; rw [if_neg e]; exact h
theorem Res.less {fr : Bool} {Mt' Mi' : AS} {d : D} {v : V} (l1 : ∀ a, Mt' a → Mt a) (l : ∀ a, Mi' a → Mi a) (h : Res K fr Mt Mi H H' d v) : Res K fr Mt' Mi' H H' d v := by
  unfold Res at h ⊢
  split at h
  · rename_i e; rw [if_pos e]; exact FrT.less l h
  · rename_i e; rw [if_neg e]; exact RepT.less l1 l h
end

def Wk (K : PySem.W.Frag) (Mt Mi : AS) (J : It) (ds : List D) (H : Hp) : Prop := ∀ (Mk Mx : AS) (H2 : Hp), (∀ a, Mk a → (Mt a ∧ Mi a) ∨ H a = none) → (∀ a, Mx a → Mi a ∨ H a = none) → Kp Mk H H2 →
  (∀ (i : Nat) d, ds[i]? = some d → J.go i H2 ∧ ∀ x H3, J.yld i H2 x H3 → Same H2 H3 ∧ Rep K Mx H3 d x) ∧ J.stop ds.length H2
theorem Gr.wk {K : PySem.W.Frag} {M Mk Mx : AS} {H H2 : Hp} (t : Trk M H) (lk : ∀ a, Mk a → M a ∨ H a = none) (l : ∀ a, Mx a → M a ∨ H a = none) (k : Kp Mk H H2) : Gr K M H Mx H2 := by
  have no : ∀ a o, Rd H a o → H a ≠ none := fun a o r z => by rcases r with r | ⟨u, r⟩ <;> (rw [z] at r; cases r)
  have go : ∀ a o, ¬ M a → Rd H a o → ¬ Mx a ∧ Rd H2 a o := fun a o n r => by
    have nx : ¬ Mx a := fun z => (l a z).elim n (no a o r)
    have nk : ¬ Mk a := fun z => (lk a z).elim n (no a o r)
    rcases r with r | ⟨u, r⟩
    · exact ⟨nx, .inl (k a _ nk r)⟩
    · exact ⟨nx, .inr ⟨u, k a _ nk r⟩⟩
  refine ⟨fun a xs r => k a _ (fun z => (lk a z).elim (fun z => ?_) (no a _ (.inl r))) r, fun a o n r _ => go a o n r⟩
  obtain ⟨o, e, m⟩ := t a z
  rw [e] at r; cases r; exact m
section
variable {K : PySem.W.Frag} {M Mt Mi : AS} {H : Hp}
theorem LR.wk {Mk : AS} {H2 : Hp} {a : Addr} {vs : List V} (lk : ∀ a, Mk a → Mt a ∨ H a = none) (k : Kp Mk H H2) (h : LR K Mt H a vs) : SqL K H2 a vs := by
  rcases h with ⟨n, h⟩ | h
  · have nk : ¬ Mk a := fun z => (lk a z).elim n fun e => by rcases h with h | ⟨u, h⟩ <;> (rw [e] at h; cases h)
    rcases h with h | ⟨u, h⟩
    · exact .inl (.inl (k _ _ nk h))
    · exact .inl (.inr ⟨u, k _ _ nk h⟩)
  · exact (show LR K F0 H2 a vs from .inr h).sq
theorem wk_list {ds : List D} {x : V} (t : Trk Mi H) (h : RepT K Mt Mi H (.lst ds) x) : ∃ a, x = .ref a ∧ (∃ xs, SqL K H a xs) ∧ Wk K Mt Mi (Itl K a) ds H := by
  obtain ⟨a, vs, e, h1, h2⟩ := h
  refine ⟨a, e, ⟨vs, h1.sq⟩, fun Mk Mx H2 lk l k => ?_⟩
  have g : Gr K Mi H Mx H2 := Gr.wk t (fun a z => (lk a z).imp And.right id) l k
  have hl : SqL K H2 a vs := LR.wk (fun a z => (lk a z).imp And.left id) k h1
  have hr : Reps K Mx H2 ds vs := Reps.gr g _ _ h2
  refine ⟨fun i d q => ?_, vs, hl, by rw [hr.len]; exact Nat.le_refl _⟩
  obtain ⟨v, hv, rv⟩ := hr.get q
  refine ⟨⟨vs, v, hl, hv⟩, fun y H3 hy => ?_⟩
  obtain ⟨rfl, f⟩ := hy
  have e1 := f vs hl
  rw [hv] at e1
  cases e1
  exact ⟨Same.refl _, rv⟩
theorem wk_tup {ds : List D} {x : V} (t : Trk Mi H) (h : Rep K Mi H (.tup ds) x) : ∃ a, x = .ref a ∧ (∃ xs, SqT K H a xs) ∧ Wk K Mt Mi (Itt K a) ds H := by
  obtain ⟨a, vs, e, h1, h2⟩ := h
  refine ⟨a, e, ⟨vs, h1.sq⟩, fun Mk Mx H2 lk l k => ?_⟩
  have g : Gr K Mi H Mx H2 := Gr.wk t (fun a z => (lk a z).imp And.right id) l k
  have hl : SqT K H2 a vs := (h1.gr g : TR K H2 a vs).sq
  have hr : Reps K Mx H2 ds vs := Reps.gr g _ _ h2
  refine ⟨fun i d q => ?_, vs, hl, by rw [hr.len]; exact Nat.le_refl _⟩
  obtain ⟨v, hv, rv⟩ := hr.get q
  refine ⟨⟨vs, v, hl, hv⟩, fun y H3 hy => ?_⟩
  obtain ⟨rfl, f⟩ := hy
  have e1 := f vs hl
  rw [hv] at e1
  cases e1
  exact ⟨Same.refl _, rv⟩
theorem get_range {a : Int} {n i : Nat} {d : D} (h : ((rangeI a n).map D.int)[i]? = some d) : i < n ∧ d = .int (a + (i : Nat)) := by
  unfold rangeI at h
  rw [List.getElem?_map, List.getElem?_map] at h
  by_cases hi : i < n
  · rw [List.getElem?_range hi] at h
    exact ⟨hi, (Option.some.inj h).symm⟩
  · rw [List.getElem?_eq_none (by simpa using hi)] at h; cases h
theorem wk_range {a : Int} {n : Nat} : Wk K Mt Mi (Itr a n) ((rangeI a n).map .int) H := fun Mk Mx H2 lk l k => by
  refine ⟨fun i d q => ?_, ?_⟩
  · obtain ⟨h1, rfl⟩ := get_range q
    refine ⟨h1, fun x H3 hy => ?_⟩
    obtain ⟨rfl, rfl⟩ := hy
    exact ⟨Same.refl _, rfl⟩
  · show n ≤ _
    unfold rangeI; simp
theorem wk_rangeC {a c : Int} {n : Nat} : Wk K Mt Mi (Itc a c n) ((List.range n).map fun m => D.int (a + (m : Nat) * c)) H := fun Mk Mx H2 lk l k => by
  refine ⟨fun i d q => ?_, ?_⟩
  · rw [List.getElem?_map] at q
    by_cases hi : i < n
    · rw [List.getElem?_range hi] at q
      cases q
      refine ⟨hi, fun x H3 hy => ?_⟩
      obtain ⟨rfl, rfl⟩ := hy
      exact ⟨Same.refl _, rfl⟩
    · rw [List.getElem?_eq_none (by simpa using hi)] at q; cases q
  · show n ≤ _
    simp
theorem get_enum : ∀ {ds : List D} {k i : Nat} {d : D}, (enumD k ds)[i]? = some d → ∃ e, ds[i]? = some e ∧ d = .tup [.int ((k + i : Nat) : Int), e]
  | [], _, _, _, h => by (cases h)
  | e :: ds, k, 0, d, h => ⟨e, rfl, (Option.some.inj h).symm⟩
  | _ :: ds, k, i + 1, d, h => by
    obtain ⟨e, h1, h2⟩ := get_enum (ds := ds) (k := k + 1) (i := i) (d := d) h
    exact ⟨e, h1, by rw [h2]; congr 4; omega⟩
theorem enum_len : ∀ (ds : List D) (k : Nat), (enumD k ds).length = ds.length
  | [], _ => rfl
  | _ :: ds, k => by unfold enumD; rw [List.length_cons, enum_len ds, List.length_cons]
theorem wk_enum {ds : List D} {x : V} (t : Trk Mi H) (h : RepT K Mt Mi H (.lst ds) x) : ∃ a, x = .ref a ∧ (∃ xs, SqL K H a xs) ∧ Wk K Mt Mi (Ite K a) (enumD 0 ds) H := by
  obtain ⟨a, vs, e, h1, h2⟩ := h
  refine ⟨a, e, ⟨vs, h1.sq⟩, fun Mk Mx H2 lk l k => ?_⟩
  have g : Gr K Mi H Mx H2 := Gr.wk t (fun a z => (lk a z).imp And.right id) l k
  have hl : SqL K H2 a vs := LR.wk (fun a z => (lk a z).imp And.left id) k h1
  have hr : Reps K Mx H2 ds vs := Reps.gr g _ _ h2
  refine ⟨fun i d q => ?_, vs, hl, by rw [hr.len, enum_len]; exact Nat.le_refl _⟩
  obtain ⟨d', q', rfl⟩ := get_enum q
  obtain ⟨v, hv, rv⟩ := hr.get q'
  refine ⟨⟨vs, v, hl, hv⟩, fun y H3 hy => ?_⟩
  obtain ⟨T, w, rfl, nT, rfl, f⟩ := hy
  have e1 := f vs hl
  rw [hv] at e1
  cases e1
  refine ⟨same_new nT, T, _, rfl, upd_same, .int (i : Nat), [v], rfl, ?_, v, [], rfl, rv.same (same_new nT), rfl⟩
  show V.int _ = V.int _
  rw [Nat.zero_add]
theorem get_zip : ∀ {ds es : List D} {i : Nat} {d : D}, (zipD ds es)[i]? = some d → ∃ x y, ds[i]? = some x ∧ es[i]? = some y ∧ d = .tup [x, y]
  | [], _, _, _, h => by (cases h)
  | _ :: _, [], _, _, h => by cases h
  | x :: ds, y :: es, 0, d, h => ⟨x, y, rfl, rfl, (Option.some.inj h).symm⟩
  | _ :: ds, _ :: es, i + 1, d, h => get_zip (ds := ds) (es := es) (i := i) (d := d) h
theorem zip_len : ∀ (ds es : List D), ds.length ≤ (zipD ds es).length ∨ es.length ≤ (zipD ds es).length
  | [], _ => .inl (Nat.zero_le _)
  | _ :: _, [] => .inr (Nat.zero_le _)
  | _ :: ds, _ :: es => by
    unfold zipD
    rw [List.length_cons, List.length_cons, List.length_cons]
    exact (zip_len ds es).imp Nat.succ_le_succ Nat.succ_le_succ
theorem wk_zip {ds es : List D} {x y : V} (t : Trk Mi H) (h : RepT K Mt Mi H (.lst ds) x) (h' : RepT K Mt Mi H (.lst es) y) : ∃ a b, x = .ref a ∧ y = .ref b ∧ (∃ xs, SqL K H a xs) ∧ (∃ xs, SqL K H b xs) ∧ Wk K Mt Mi (Itz K a b) (zipD ds es) H := by
  obtain ⟨a, vs, e, h1, h2⟩ := h
  obtain ⟨b, us, e', h3, h4⟩ := h'
  refine ⟨a, b, e, e', ⟨vs, h1.sq⟩, ⟨us, h3.sq⟩, fun Mk Mx H2 lk l k => ?_⟩
  have g : Gr K Mi H Mx H2 := Gr.wk t (fun a z => (lk a z).imp And.right id) l k
  have hl : SqL K H2 a vs := LR.wk (fun a z => (lk a z).imp And.left id) k h1
  have hr : Reps K Mx H2 ds vs := Reps.gr g _ _ h2
  have hl' : SqL K H2 b us := LR.wk (fun a z => (lk a z).imp And.left id) k h3
  have hr' : Reps K Mx H2 es us := Reps.gr g _ _ h4
  refine ⟨fun i d q => ?_, vs, us, hl, hl', by rw [hr.len, hr'.len]; exact zip_len ds es⟩
  obtain ⟨d1, d2, q1, q2, rfl⟩ := get_zip q
  obtain ⟨v, hv, rv⟩ := hr.get q1
  obtain ⟨u, hu, ru⟩ := hr'.get q2
  refine ⟨⟨vs, us, v, u, hl, hl', hv, hu⟩, fun z H3 hy => ?_⟩
  obtain ⟨T, w1, w2, rfl, nT, rfl, f1, f2⟩ := hy
  have e1 := f1 vs hl
  rw [hv] at e1
  cases e1
  have e2 := f2 us hl'
  rw [hu] at e2
  cases e2
  exact ⟨same_new nT, T, _, rfl, upd_same, v, [u], rfl, rv.same (same_new nT), u, [], rfl, ru.same (same_new nT), rfl⟩
theorem wk_str {z : Str} : Wk K Mt Mi (Its z) (z.cps.toList.map fun c => .str ⟨#[c]⟩) H := fun Mk Mx H2 lk l k => by
  refine ⟨fun i d q => ?_, ?_⟩
  · rw [List.getElem?_map, Array.getElem?_toList] at q
    cases e : z.cps[i]? with
    | none => rw [e] at q; cases q
    | some ch =>
      rw [e] at q
      cases q
      refine ⟨?_, fun x H3 hy => ?_⟩
      · show i < z.cps.size
        exact (Array.getElem?_eq_some_iff.mp e).1
      · obtain ⟨rfl, c2, hc2, rfl⟩ := hy
        rw [e] at hc2
        cases hc2
        exact ⟨Same.refl _, rfl⟩
  · show z.cps.size ≤ _
    simp
end
end PL

namespace PL
open L2 PyProof.Rows PySem.Spec PySem

theorem MM.l {Mc : AS} {P : Nat → Option Addr} {L L' : List Nat} : ∀ a, MM Mc P (L ++ L') a → MM Mc P L a := MM.less fun _ h => List.mem_append_left _ h
theorem MM.r {Mc : AS} {P : Nat → Option Addr} {L L' : List Nat} : ∀ a, MM Mc P (L ++ L') a → MM Mc P L' a := MM.less fun _ h => List.mem_append_right _ h
theorem wt_of {X : Cx} {a : Expr} {σ : L2.St} {H : Hp} {Q : Bool → Hp → Prop} (he : ∀ whole, isTrue a X.env whole = (do let v ← whole; standAt a.pos; holding [v] (truthy v)))
    (h : WE X a σ H (fun x H1 => ∃ k, x = .bl k ∧ Q k H1)) : WT X a σ H Q := PT.wt (pt_val pe_we he) h
mutual
theorem asgT_len : ∀ {t : IT} {d : D} {r r2 : En}, asgT t d r = .ok r2 → r2.length = r.length
  | .nm i, d, r, r2, h => by
    have h : R.ok (r.set i (some d)) = .ok r2 := h
    cases h
    rw [List.length_set]
  | .tp ts, .tup ds, r, r2, h => asgTs_len (ts := ts) (ds := ds) h
  | .tp ts, .lst ds, r, r2, h => asgTs_len (ts := ts) (ds := ds) h
  | .tp _, .non, _, _, h => by cases h
  | .tp _, .bl _, _, _, h => by cases h
  | .tp _, .int _, _, _, h => by cases h
  | .tp _, .str _, _, _, h => by cases h
  | .tp _, .dK _ _, _, _, h => by cases h
  | .tp _, .dT _ _, _, _, h => by cases h
  | .tp _, .ex _ _, _, _, h => by cases h
theorem asgTs_len : ∀ {ts : Ts} {ds : List D} {r r2 : En}, asgTs ts ds r = .ok r2 → r2.length = r.length
  | .nil, [], r, r2, h => by cases h; rfl
  | .nil, _ :: _, _, _, h => by cases h
  | .cons _ _, [], _, _, h => by cases h
  | .cons t ts, d :: ds, r, r2, h => by
    have h : ((asgT t d r).bind fun r1 => asgTs ts ds r1) = .ok r2 := h
    cases q : asgT t d r with
    | no => rw [q] at h; cases h
    | ex z => rw [q] at h; cases h
    | ok r1 =>
      rw [q] at h
      exact (asgTs_len (ts := ts) (ds := ds) h).trans (asgT_len q)
end
section
variable {c : Ck} {n : Nat} {G : Ga}
mutual
theorem sndG {T : List (Str × PL.D)} {W : WX} {sc : Scope} {X : Cx} (hx : SX c T n G W sc X) (hcm : X.calm = true) : ∀ (t : IT) (e : Expr), ckT X.N sc t e = true →
    ∀ {Mc : AS} {H0 H : Hp} {O : List Nat} {P : Nat → Option Addr} {r : En} {σ : L2.St}, SR X.K Mc H0 O P r σ H → (∀ i ∈ tgts t, P i = none ∧ i ∉ O ∧ ∀ x, X.N[i]? = some x → X.fn x = true ∨ sc.names.lookup x = some .local) → ∀ {d : D} {v : V}, Rep X.K (MM Mc P []) H d v →
    ∀ {Q : L2.St → Hp → Prop} {r2 : En}, asgT t d r = .ok r2 → (∀ σ2, SR X.K Mc H0 O P r2 σ2 H → (∀ j, j ∉ tgts t → σ2[j]? = σ[j]?) → Q σ2 H) → WG X e v σ H Q
  | .nm i, e, hc, Mc, H0, H, O, P, r, σ, hs, ho, d, v, hd, Q, r2, h, hq => by
    cases e <;> first | exact Bool.noConfusion hc | skip
    rename_i x p
    have hc : (decide (X.N[i]? = some x) && (match sc.names.lookup x with | some .local => true | some .cell => true | _ => false)) = true := hc
    (simp only [Bool.and_eq_true, decide_eq_true_eq] at hc)
    have h2 : R.ok (r.set i (some d)) = .ok r2 := h
    cases h2
    have hl : Loc X.env.scope x := by
      show X.env.scope.names.lookup x = _ ∨ X.env.scope.names.lookup x = _
      rw [hx.scope]
      have := hc.2
      split at this
      · rename_i e; exact .inl e
      · rename_i e; exact .inr e
      · cases this
    obtain ⟨h3, h4, h5⟩ := ho i (by show i ∈ [i]; simp)
    have hfn : X.fn x = true ∨ X.env.scope.names.lookup x = some .local := (h5 x hc.1).imp id fun z => by rw [hx.scope]; exact z
    exact PG.wg (pg_name hx.nd hc.1 hl hfn) (hq _ (hs.set h3 h4 hd) fun j hj => List.getElem?_set_ne (fun e => hj (by show j ∈ [i]; simp [e])))
  | .tp ts, e, hc, Mc, H0, H, O, P, r, σ, hs, ho, d, v, hd, Q, r2, h, hq => by
    cases e <;> first | exact Bool.noConfusion hc | skip
    rename_i es k p
    have hc : ckTs X.N sc ts es = true := hc
    have hlen : ∀ (ts : Ts) (es : List Expr), ckTs X.N sc ts es = true → (assignEach es X.env).length = es.length ∧ (assignEach es X.env).findIdx? (·.1) = none := fun ts es h => by
      induction es generalizing ts with
      | nil => exact ⟨rfl, rfl⟩
      | cons e es ih =>
        cases ts with
        | nil => cases h
        | cons t ts =>
          have h : (ckT X.N sc t e && ckTs X.N sc ts es) = true := h
          rw [Bool.and_eq_true] at h
          obtain ⟨h1, h2⟩ := ih ts h.2
          have e1 : assignEach (e :: es) X.env = (false, assign e X.env) :: assignEach es X.env := by
            cases e <;> first | rfl | (cases t <;> exact Bool.noConfusion h.1)
          rw [e1]
          refine ⟨by rw [List.length_cons, h1, List.length_cons], ?_⟩
          rw [List.findIdx?_cons, h2]; rfl
    obtain ⟨l1, l2⟩ := hlen ts es hc
    match d, hd, h with
    | .tup ds, hd, h =>
      obtain ⟨a, vs, e1, h1, h2⟩ := hd
      have h3 : asgTs ts ds r = .ok r2 := h
      obtain ⟨h4, h5⟩ := sndGs hx hcm ts es hc hs ho h2 h3 hq
      exact PG.wg (pg_tup (n := es.length) hcm pgs_wgs l1 l2) ⟨a, vs, e1, TR.sq h1, h4, h5⟩
    | .lst ds, hd, h =>
      obtain ⟨a, vs, e1, h1, h2⟩ := hd
      have h3 : asgTs ts ds r = .ok r2 := h
      obtain ⟨h4, h5⟩ := sndGs hx hcm ts es hc hs ho h2 h3 hq
      exact PG.wg (pg_lst (n := es.length) hcm pgs_wgs l1 l2) ⟨a, vs, e1, h1.sq, h4, h5⟩
    | .non, _, h => cases h
    | .bl _, _, h => cases h
    | .int _, _, h => cases h
    | .str _, _, h => cases h
    | .dK _ _, _, h => cases h
    | .dT _ _, _, h => cases h
    | .ex _ _, _, h => cases h
theorem sndGs {T : List (Str × PL.D)} {W : WX} {sc : Scope} {X : Cx} (hx : SX c T n G W sc X) (hcm : X.calm = true) : ∀ (ts : Ts) (es : List Expr), ckTs X.N sc ts es = true →
    ∀ {Mc : AS} {H0 H : Hp} {O : List Nat} {P : Nat → Option Addr} {r : En} {σ : L2.St}, SR X.K Mc H0 O P r σ H → (∀ i ∈ tgtss ts, P i = none ∧ i ∉ O ∧ ∀ x, X.N[i]? = some x → X.fn x = true ∨ sc.names.lookup x = some .local) → ∀ {ds : List D} {vs : List V}, Reps X.K (MM Mc P []) H ds vs →
    ∀ {Q : L2.St → Hp → Prop} {r2 : En}, asgTs ts ds r = .ok r2 → (∀ σ2, SR X.K Mc H0 O P r2 σ2 H → (∀ j, j ∉ tgtss ts → σ2[j]? = σ[j]?) → Q σ2 H) → vs.length = es.length ∧ WGs X es vs σ H Q
  | .nil, [], hc, Mc, H0, H, O, P, r, σ, hs, ho, [], vs, hd, Q, r2, h, hq => by
    have hd : vs = [] := hd
    subst hd
    have h2 : R.ok r = .ok r2 := h
    cases h2
    exact ⟨rfl, PGs.wgs pgs_nil ⟨rfl, hq _ hs fun _ _ => rfl⟩⟩
  | .nil, [], hc, Mc, H0, H, O, P, r, σ, hs, ho, _ :: _, vs, hd, Q, r2, h, hq => by cases h
  | .nil, _ :: _, hc, Mc, H0, H, O, P, r, σ, hs, ho, ds, vs, hd, Q, r2, h, hq => Bool.noConfusion hc
  | .cons _ _, [], hc, Mc, H0, H, O, P, r, σ, hs, ho, ds, vs, hd, Q, r2, h, hq => Bool.noConfusion hc
  | .cons _ _, _ :: _, hc, Mc, H0, H, O, P, r, σ, hs, ho, [], vs, hd, Q, r2, h, hq => by cases h
  | .cons t ts, e :: es, hc, Mc, H0, H, O, P, r, σ, hs, ho, d :: ds, vs, hd, Q, r2, h, hq => by
    have hc : (ckT X.N sc t e && ckTs X.N sc ts es) = true := hc
    rw [Bool.and_eq_true] at hc
    obtain ⟨v, rest, ev, hd1, hd2⟩ := hd
    have h : ((asgT t d r).bind fun r1 => asgTs ts ds r1) = .ok r2 := h
    cases q : asgT t d r with
    | no => rw [q] at h; cases h
    | ex z => rw [q] at h; cases h
    | ok r1 =>
      rw [q] at h
      have h : asgTs ts ds r1 = .ok r2 := h
      have hl : rest.length = es.length := by
        have hh : ∀ (ts : Ts) (es : List Expr) (ds : List D) (r1 : En), ckTs X.N sc ts es = true → asgTs ts ds r1 = .ok r2 → ds.length = es.length := fun ts es => by
          induction es generalizing ts with
          | nil =>
            intro ds r1 a b
            cases ts with
            | nil => cases ds <;> first | rfl | cases b
            | cons _ _ => cases a
          | cons e es ih =>
            intro ds r1 a b
            cases ts with
            | nil => cases a
            | cons t ts =>
              have a : (ckT X.N sc t e && ckTs X.N sc ts es) = true := a
              rw [Bool.and_eq_true] at a
              cases ds with
              | nil => cases b
              | cons d ds =>
                have b : ((asgT t d r1).bind fun r1 => asgTs ts ds r1) = .ok r2 := b
                cases q : asgT t d r1 with
                | no => rw [q] at b; cases b
                | ex z => rw [q] at b; cases b
                | ok r3 =>
                  rw [q] at b
                  rw [List.length_cons, List.length_cons, ih ts ds r3 a.2 b]
        rw [hd2.len]
        exact hh ts es ds r1 hc.2 h
      refine ⟨by rw [ev, List.length_cons, List.length_cons, hl], ?_⟩
      subst ev
      have e1 : (assignEach (e :: es) X.env).map (·.2) = assign e X.env :: (assignEach es X.env).map (·.2) := by
        cases e <;> first | rfl | (cases t <;> exact Bool.noConfusion hc.1)
      refine PGs.wgs (pgs_cons pg_wg pgs_wgs e1) ⟨v, rest, rfl, ?_⟩
      refine sndG hx hcm t e hc.1 hs (fun i hi => ho i (List.mem_append_left _ hi)) hd1 q fun σ2 hs2 hk => ?_
      exact (sndGs hx hcm ts es hc.2 hs2 (fun i hi => ho i (List.mem_append_right _ hi)) hd2 h fun σ3 hs3 hk3 => hq σ3 hs3 fun j hj => (hk3 j fun z => hj (List.mem_append_right _ z)).trans (hk j fun z => hj (List.mem_append_left _ z))).2
end
end
end PL

namespace PL
open L2 PyProof.Rows PySem.Spec PySem

theorem En.at_ok {r : En} {i : Nat} {d : D} (h : r.at i = .ok d) : r[i]? = some (some d) := by
  unfold En.at at h
  split at h
  · rename_i e; cases h; exact e
  · cases h
theorem En.at_ex {r : En} {i : Nat} {d : D} (h : r.at i = .ex d) : False := by
  unfold En.at at h
  split at h <;> cases h
/-- the value of a name of a built-in type -/
theorem ty_boot {t : String} (h : tyB t = true) : bootBuiltins (Str.ofString t) = some (.type t) := by
  unfold tyB at h
  simp only [Bool.or_eq_true, decide_eq_true_eq] at h
  rcases h with rfl | rfl | rfl | rfl | rfl <;> decide +kernel
theorem bi_boot {f : B} (h : f.ok = true) : bootBuiltins f.name = some f.val := by
  cases f <;> first | exact Bool.noConfusion h | decide +kernel
theorem RepL.app {K : PySem.W.Frag} {M : AS} {H : Hp} : ∀ {ds es : List D} {vs us : List V}, RepL K M M H ds vs → Reps K M H es us → Reps K M H (ds ++ es) (vs ++ us)
  | [], _, _, _, h, g => by have h : _ = [] := h; subst h; exact g
  | _ :: ds, _, _, _, ⟨v, r, e, h1, h2⟩, g => by subst e; exact ⟨v, _, rfl, h1.rep, RepL.app h2 g⟩
theorem Reps.ofL {K : PySem.W.Frag} {M : AS} {H : Hp} {ds : List D} {vs : List V} (h : RepL K M M H ds vs) : Reps K M H ds vs := RepL.reps h
/-- what the items of a comprehension's turn come to -/
def turnF (T : List (Str × D)) (G : Ga) (own : List Nat) (e : IE) (t : IT) (o : IO) (r : En) (d : D) : R (Option D) :=
  (asgT t d (wipeE r own)).bind fun r1 => (evC T G o r1).bind fun k => if k = true then (evE T G e r1).bind fun x => .ok (some x) else .ok none
theorem compD_cons {f : D → R (Option D)} {d : D} {ds : List D} {all : List D} (h : compD f (d :: ds) = .ok all) : ∃ o rest, f d = .ok o ∧ compD f ds = .ok rest ∧ all = optC o rest := by
  have h : ((exno (f d)).bind fun o => (compD f ds).bind fun r => R.ok (optC o r)) = .ok all := h
  cases q : f d with
  | no => rw [q] at h; cases h
  | ex z => rw [q] at h; cases h
  | ok o =>
    rw [q] at h
    have h : ((compD f ds).bind fun r => R.ok (optC o r)) = .ok all := h
    cases q2 : compD f ds with
    | no => rw [q2] at h; cases h
    | ex z => rw [q2] at h; cases h
    | ok rest =>
      rw [q2] at h
      cases h
      exact ⟨o, rest, rfl, rfl, rfl⟩
theorem compD_nex {f : D → R (Option D)} : ∀ {ds : List D} {z : D}, compD f ds = .ex z → False
  | [], _, h => by cases h
  | d :: ds, z, h => by
    have h : ((exno (f d)).bind fun o => (compD f ds).bind fun r => R.ok (optC o r)) = .ex z := h
    cases q : f d with
    | no => rw [q] at h; cases h
    | ex z => rw [q] at h; cases h
    | ok o =>
      rw [q] at h
      have h : ((compD f ds).bind fun r => R.ok (optC o r)) = .ex z := h
      cases q2 : compD f ds with
      | no => rw [q2] at h; cases h
      | ex z => exact compD_nex q2
      | ok rest => rw [q2] at h; cases h

/-- a part of a slice -/
def WO (X : Cx) : Option Expr → TO
  | none => tNoPart
  | some e => tPart (WE X e)
theorem po_of {X : Cx} {e : Option Expr} : PO X e (WO X e) := by
  cases e with
  | none => exact po_none
  | some e => exact po_some pe_we
theorem evEs_len {T : List (Str × D)} {G : Ga} : ∀ {es : Es} {r : En} {xs : List D}, evEs T G es r = .ok xs → xs.length = lenS es
  | .nil, _, _, h => by cases h; rfl
  | .cons e es, r, xs, h => by
    have h : ((evE T G e r).bind fun x => (evEs T G es r).bind fun xs => R.ok (x :: xs)) = .ok xs := h
    cases q : evE T G e r with
    | no => rw [q] at h; cases h
    | ex z => rw [q] at h; cases h
    | ok x =>
      rw [q] at h
      have h : ((evEs T G es r).bind fun xs => R.ok (x :: xs)) = .ok xs := h
      cases q2 : evEs T G es r with
      | no => rw [q2] at h; cases h
      | ex z => rw [q2] at h; cases h
      | ok ys =>
        rw [q2] at h
        cases h
        show ys.length + 1 = lenS es + 1
        rw [evEs_len q2]

section
variable {X : Cx} {a b d f : Expr} {ta tb td tf : TE} {pos : Pos}
def tChain3 (r r' r3 : R2) (ta tb tc td : TE) : TE := fun σ H Q => ta σ H fun x H1 => tb σ H1 fun y H2 => r x y H2 fun z H3 => ∃ k, z = .bl k ∧
  (if k = true then tc σ H3 fun w' H4 => r' y w' H4 fun z2 H5 => ∃ k2, z2 = .bl k2 ∧ (if k2 = true then td σ H5 fun u' H6 => r3 w' u' H6 Q else Q (.bl false) H5) else Q (.bl false) H3)
theorem pe_chain3 {op op' op3 : CmpOp} {r r' r3 : R2} (ho : OpR X (compareOp op) r) (ho' : OpR X (compareOp op') r') (ho3 : OpR X (compareOp op3) r3) (ha : PE X a ta) (hb : PE X b tb) (hc : PE X d td) (hd : PE X f tf)
    (hm : lastMarks [op, op', op3] [b, d, f] = false) : PE X (.Compare a [op, op', op3] [b, d, f] pos) (tChain3 r r' r3 ta tb td tf) := by
  refine ⟨fun pn s σ H Q I h => ?_⟩
  refine Compare_chain (thn (ha.run pn s σ H _ I h) fun v t1 ⟨x, H1, J1, p1, u1⟩ => chain_link (thn (hb.run pn t1 σ H1 _ J1 u1) fun u t2 ⟨y, H2, J2, p2, u2⟩ =>
    thn (ho pn t2 σ H2 x y v u _ J2 p1 p2 u2) fun d t3 ⟨z, H3, J3, r3, k, e, u3⟩ => ?_)) hm
  subst e
  cases r3
  refine wpAny_truthy_bool ?_
  cases k with
  | false => exact ite_ff ⟨.bl false, H3, J3, rfl, u3⟩
  | true =>
    refine ite_tt (chain_link (thn (hc.run pn t3 σ H3 _ J3 u3) fun w' s4 ⟨z', H4, I4, r4, q4⟩ => thn (ho' pn s4 σ H4 y z' u w' _ I4 p2 r4 q4) fun d2 s5 ⟨z2, H5, I5, r5, k2, e2, q5⟩ => ?_))
    subst e2
    cases r5
    refine wpAny_truthy_bool ?_
    cases k2 with
    | false => exact ite_ff ⟨.bl false, H5, I5, rfl, q5⟩
    | true => exact ite_tt (chain_last (thn (hd.run pn s5 σ H5 _ I5 q5) fun w2 s6 ⟨z6, H6, I6, r6, q6⟩ => ho3 pn s6 σ H6 z' z6 w' w2 Q I6 r4 r6 q6))
theorem pt_chain3 {op op' op3 : CmpOp} {r r' r3 : R2} (ho : OpR X (compareOp op) r) (ho' : OpR X (compareOp op') r') (ho3 : OpR X (compareOp op3) r3) (ha : PE X a ta) (hb : PE X b tb) (hc : PE X d td) (hd : PE X f tf)
    (hm : lastMarks [op, op', op3] [b, d, f] = false) : PT X (.Compare a [op, op', op3] [b, d, f] pos) (tTest (tChain3 r r' r3 ta tb td tf)) := by
  refine ⟨fun pn s σ H Q I h => ?_⟩
  refine isTrue_chain (thn (ha.run pn s σ H _ I h) fun v t1 ⟨x, H1, J1, p1, u1⟩ => test_link (thn (hb.run pn t1 σ H1 _ J1 u1) fun u t2 ⟨y, H2, J2, p2, u2⟩ =>
    thn (ho pn t2 σ H2 x y v u _ J2 p1 p2 u2) fun d t3 ⟨z, H3, J3, r3, k, e, u3⟩ => ?_)) hm
  subst e
  cases r3
  refine wpAny_truthy_bool ?_
  cases k with
  | false =>
    obtain ⟨k', e', q'⟩ := u3
    cases e'
    exact ite_ff ⟨H3, J3, q'⟩
  | true =>
    refine ite_tt (test_link (thn (hc.run pn t3 σ H3 _ J3 u3) fun w' s4 ⟨z', H4, I4, r4, q4⟩ => thn (ho' pn s4 σ H4 y z' u w' _ I4 p2 r4 q4) fun d2 s5 ⟨z2, H5, I5, r5, k2, e2, q5⟩ => ?_))
    subst e2
    cases r5
    refine wpAny_truthy_bool ?_
    cases k2 with
    | false =>
      obtain ⟨k', e', q'⟩ := q5
      cases e'
      exact ite_ff ⟨H5, I5, q'⟩
    | true =>
      refine ite_tt (test_last (thn (hd.run pn s5 σ H5 _ I5 q5) fun w2 s6 ⟨z6, H6, I6, r6, q6⟩ => thn (ho3 pn s6 σ H6 z' z6 w' w2 _ I6 r4 r6 q6) fun d' s7 ⟨z7, H7, I7, r7, k7, e7, q7⟩ => ?_))
      subst e7
      cases r7
      exact wpAny_truthy_bool ⟨H7, I7, q7⟩
end

section
variable {c : Ck} {n : Nat} {G : Ga}
theorem wt_val {xl : List (Str × Option Str)} {fr : Bool} {K : PySem.W.Frag} {Mt Mi : AS} {H : Hp} {σ : L2.St} {W : WX} {Q : Bool → Hp → Prop} {ra : R D} (t : Trk Mt H) (h : Sat ra (fun x => Sat (toB x) (fun k => ∀ H', Same H H' → Q k H') (exE xl K W σ H)) (exE xl K W σ H)) :
    Sat ra (okE K fr Mt Mi H (fun x H1 => ∃ k, x = .bl k ∧ Q k H1)) (exE xl K W σ H) :=
  Sat.mono h (fun x _ h1 v H1 s1 r1 => by
    obtain ⟨k, ek, hk⟩ := Sat.val h1 fun z => toB_ex
    have e2 := toB_ok ek
    subst e2
    exact ⟨k, (r1.repT t).bl, hk H1 s1⟩) fun z hz => hz
/-- two operands -/
theorem two {xl : List (Str × Option Str)} {α : Type} {fra frb : Bool} {Mc : AS} {P : Nat → Option Addr} {X : Cx} {a b : Expr} {ra rb : R D} {La Lb Ia Ib : List Nat} {σ : L2.St} {H : Hp} {W : WX} {Q : V → V → Hp → Prop} {f : D → D → R α} {okQ : α → Prop}
    (ha : ∀ {Q : VK}, Sat ra (okE X.K fra (MM Mc P La) (MM Mc P Ia) H Q) (exE xl X.K W σ H) → WE X a σ H Q)
    (hb : ∀ {H1 : Hp} {Q : VK}, Same H H1 → Sat rb (okE X.K frb (MM Mc P Lb) (MM Mc P Ib) H1 Q) (exE xl X.K W σ H1) → WE X b σ H1 Q)
    (t : Trk (MM Mc P La) H) (t2 : Trk (MM Mc P Lb) H) (h : Sat (ra.bind fun x => rb.bind fun y => f x y) okQ (exE xl X.K W σ H))
    (hQ : ∀ x y v u H2, Same H H2 → RepT X.K F0 (MM Mc P Ia) H2 x v → RepT X.K F0 (MM Mc P Ib) H2 y u → Sat (f x y) okQ (exE xl X.K W σ H) → Q v u H2) :
    WE X a σ H fun v H1 => WE X b σ H1 fun u H2 => Q v u H2 := by
  refine ha (Sat.mono (Sat.bind h) (fun x _ h1 v H1 s1 r1 => ?_) fun z hz => hz)
  refine hb s1 (Sat.mono (Sat.bind h1) (fun y _ h2 u H2 s2 r2 => ?_) fun z hz => exE.same s1 hz)
  exact hQ x y v u H2 (s1.trans s2) (((r1.repT t).less (fun _ z => z.elim) fun _ z => z).same s2) ((r2.repT (t2.same s1)).less (fun _ z => z.elim) fun _ z => z) h2


abbrev SndE (c : Ck) (n : Nat) (G : Ga) (e : IE) : Prop := ∀ {T : List (Str × PL.D)} {W : WX} {sc : Scope} {X : Cx} {a : Expr}, SX c T n G W sc X → ckE c X.N sc e a = true → ∀ {Mc : AS} {H0 H : Hp} {O : List Nat} {P : Nat → Option Addr} {r : En} {σ : L2.St}, SR X.K Mc H0 O P r σ H →
    ∀ {Q : VK}, Sat (evE T G e r) (okE X.K (frE c e) (MM Mc P (etE e)) (MM Mc P (eiE e)) H Q) (exE c.xc X.K W σ H) → WE X a σ H Q
abbrev SndS (c : Ck) (n : Nat) (G : Ga) (es : Es) : Prop := ∀ {T : List (Str × PL.D)} {W : WX} {sc : Scope} {X : Cx} {l : List Expr}, SX c T n G W sc X → ckS c X.N sc es l = true → ∀ {Mc : AS} {H0 H : Hp} {O : List Nat} {P : Nat → Option Addr} {r : En} {σ : L2.St}, SR X.K Mc H0 O P r σ H →
    ∀ {Q : List V → Hp → Prop}, Sat (evEs T G es r) (fun ds => ∀ vs H', Same H H' → RepL X.K (MM Mc P (etS es)) (MM Mc P (eiS es)) H' ds vs → Q vs H') (exE c.xc X.K W σ H) → WA X l σ H Q
abbrev SndAnd (c : Ck) (n : Nat) (G : Ga) (es : Es) : Prop := ∀ {T : List (Str × PL.D)} {W : WX} {sc : Scope} {X : Cx} {l : List Expr} {p : Pos}, SX c T n G W sc X → ckS c X.N sc es l = true → ∀ {Mc : AS} {H0 H : Hp} {O : List Nat} {P : Nat → Option Addr} {r : En} {σ : L2.St}, SR X.K Mc H0 O P r σ H →
    ∀ {Q : VK}, Sat (evAnd T G es r) (okE X.K false (MM Mc P []) (MM Mc P []) H Q) (exE c.xc X.K W σ H) → WE X (.BoolOp .And l p) σ H Q
abbrev SndOr (c : Ck) (n : Nat) (G : Ga) (es : Es) : Prop := ∀ {T : List (Str × PL.D)} {W : WX} {sc : Scope} {X : Cx} {l : List Expr} {p : Pos}, SX c T n G W sc X → ckS c X.N sc es l = true → ∀ {Mc : AS} {H0 H : Hp} {O : List Nat} {P : Nat → Option Addr} {r : En} {σ : L2.St}, SR X.K Mc H0 O P r σ H →
    ∀ {Q : VK}, Sat (evOr T G es r) (okE X.K false (MM Mc P []) (MM Mc P []) H Q) (exE c.xc X.K W σ H) → WE X (.BoolOp .Or l p) σ H Q
abbrev SndAndT (c : Ck) (n : Nat) (G : Ga) (es : Es) : Prop := ∀ {T : List (Str × PL.D)} {W : WX} {sc : Scope} {X : Cx} {l : List Expr} {p : Pos}, SX c T n G W sc X → ckS c X.N sc es l = true → ∀ {Mc : AS} {H0 H : Hp} {O : List Nat} {P : Nat → Option Addr} {r : En} {σ : L2.St}, SR X.K Mc H0 O P r σ H →
    ∀ {Q : Bool → Hp → Prop}, Sat (evAnd T G es r) (fun x => Sat (toB x) (fun k => ∀ H', Same H H' → Q k H') (exE c.xc X.K W σ H)) (exE c.xc X.K W σ H) → WW X (.BoolOp .And l p) σ H Q
abbrev SndOrT (c : Ck) (n : Nat) (G : Ga) (es : Es) : Prop := ∀ {T : List (Str × PL.D)} {W : WX} {sc : Scope} {X : Cx} {l : List Expr} {p : Pos}, SX c T n G W sc X → ckS c X.N sc es l = true → ∀ {Mc : AS} {H0 H : Hp} {O : List Nat} {P : Nat → Option Addr} {r : En} {σ : L2.St}, SR X.K Mc H0 O P r σ H →
    ∀ {Q : Bool → Hp → Prop}, Sat (evOr T G es r) (fun x => Sat (toB x) (fun k => ∀ H', Same H H' → Q k H') (exE c.xc X.K W σ H)) (exE c.xc X.K W σ H) → WW X (.BoolOp .Or l p) σ H Q
abbrev SndT (c : Ck) (n : Nat) (G : Ga) (e : IE) : Prop := ∀ {T : List (Str × PL.D)} {W : WX} {sc : Scope} {X : Cx} {a : Expr}, SX c T n G W sc X → ckE c X.N sc e a = true → ∀ {Mc : AS} {H0 H : Hp} {O : List Nat} {P : Nat → Option Addr} {r : En} {σ : L2.St}, SR X.K Mc H0 O P r σ H →
    ∀ {Q : Bool → Hp → Prop}, Sat (evE T G e r) (fun x => Sat (toB x) (fun k => ∀ H', Same H H' → Q k H') (exE c.xc X.K W σ H)) (exE c.xc X.K W σ H) → WT X a σ H Q
abbrev SndO (c : Ck) (n : Nat) (G : Ga) (e : IO) : Prop := ∀ {T : List (Str × PL.D)} {W : WX} {sc : Scope} {X : Cx} {a : Option Expr}, SX c T n G W sc X → ckO c X.N sc e a = true → ∀ {Mc : AS} {H0 H : Hp} {O : List Nat} {P : Nat → Option Addr} {r : En} {σ : L2.St}, SR X.K Mc H0 O P r σ H →
    ∀ {Q : Option Int → Hp → Prop}, Sat (evO T G e r) (fun x => ∀ H', Same H H' → Q x H') (exE c.xc X.K W σ H) → WO X a σ H Q
abbrev SndC (c : Ck) (n : Nat) (G : Ga) (o : IO) : Prop := ∀ {T : List (Str × PL.D)} {W : WX} {sc : Scope} {X : Cx} {l : List Expr}, SX c T n G W sc X → ckC c X.N sc o l = true → ∀ {Mc : AS} {H0 H : Hp} {O : List Nat} {P : Nat → Option Addr} {r : En} {σ : L2.St}, SR X.K Mc H0 O P r σ H →
    ∀ {Q : Bool → Hp → Prop}, Sat (evC T G o r) (fun k => ∀ H', Same H H' → Q k H') (exE c.xc X.K W σ H) → WTs X l σ H Q
abbrev SndI (c : Ck) (n : Nat) (G : Ga) (it : II) : Prop := ∀ {T : List (Str × PL.D)} {W : WX} {sc : Scope} {X : Cx} {a tg : Expr}, SX c T n G W sc X → ckI c X.N sc it a (isTup tg) = true → ∀ {Mc : AS} {H0 H : Hp} {O : List Nat} {P : Nat → Option Addr} {r : En} {σ : L2.St}, SR X.K Mc H0 O P r σ H →
    ∀ {R' : It → Hp → Prop}, Sat (evI T G it r) (fun ds => ∀ J H', Same H H' → Wk X.K (MM Mc P (etI it)) (MM Mc P (eiI it)) J ds H' → R' J H') (exE c.xc X.K W σ H) → WI X tg a σ H R'
theorem sE_var {i : Nat}  : SndE c n G (.var i) := by
    intro T W sc X  a  hx  hc  Mc  H0  H  O  P  r  σ  hs  Q  h
    obtain ⟨x, p, rfl, hi, hv, hn⟩ := iv_var hc
    obtain ⟨d, e, hq⟩ := Sat.val (show Sat (r.at i) _ _ from h) fun z => En.at_ex
    obtain ⟨v, h1, h2⟩ := hs.var (En.at_ok e)
    obtain ⟨n1, n2⟩ := nmB_ok hn
    exact PE.we (pe_var hi (hx.vis hv) n1 n2) ⟨v, h1, hq v H (Same.refl H) h2⟩
theorem sE_con {d : D}  : SndE c n G (.con d) := by
    intro T W sc X  a  hx  hc  Mc  H0  H  O  P  r  σ  hs  Q  h
    obtain ⟨k, j, p, rfl, hk⟩ := iv_con hc
    have hq : okE X.K false (MM Mc P []) (MM Mc P []) H Q d := h
    cases d <;> cases k <;> first | exact Bool.noConfusion hk | skip
    · exact PE.we pe_non (hq _ H (Same.refl H) rfl)
    · rename_i b b'
      have e : b = b' := eq_of_beq hk
      subst e
      exact PE.we pe_bl (hq _ H (Same.refl H) rfl)
    · rename_i b b'
      have e : b = b' := of_decide_eq_true hk
      subst e
      exact PE.we pe_int (hq _ H (Same.refl H) rfl)
    · rename_i b b'
      have e : b = b' := of_decide_eq_true hk
      subst e
      exact PE.we pe_str (hq _ H (Same.refl H) rfl)
theorem sE_glob {j : Nat}  : SndE c n G (.glob j) := by
    intro T W sc X  a  hx  hc  Mc  H0  H  O  P  r  σ  hs  Q  h
    obtain ⟨x, p, q, rfl, hj, rfl, hf, hg, hn⟩ := iv_glob hc
    have h : Sat (match T[j]? with | some c => R.ok c.2 | none => .no) (okE X.K false (MM Mc P []) (MM Mc P []) H Q) (exE c.xc X.K W σ H) := h
    rw [(hx.cst j q hj).1] at h
    obtain ⟨u, v, h1, h2, h3⟩ := (hx.cst j q hj).2
    exact PE.we (pe_glob (hx.gl hg) h1 h2 (nmB_ok hn).1) (h v H (Same.refl H) (RepT.of (h3 _ H)))
theorem sE_bin {o : Operator} {a : IE} {b : IE} (ihE_a : SndE c n G a) (ihE_b : SndE c n G b) : SndE c n G (.bin o a b) := by
    intro T W sc X  e  hx  hc  Mc  H0  H  O  P  r  σ  hs  Q  h
    obtain ⟨l, rr, p, rfl, ha, hb⟩ := iv_bin hc
    refine PE.we (pe_op (op_bin (Mi := MM Mc P (eiE a ++ eiE b))) pe_we pe_we) ?_
    refine two (fra := frE c a) (frb := frE c b) (ihE_a hx ha hs) (fun s => ihE_b hx hb (hs.grow s)) (hs.trk _) (hs.trk _) h fun x y v u H2 s2 r1 r2 hh => ?_
    obtain ⟨z, ez, hz⟩ := Sat.val hh fun z => binD_ex
    exact ⟨x, y, z, r1.less (fun _ z => z) MM.l, r2.less (fun _ z => z) MM.r, ez, fun w H' s' f => hz w H' (s2.trans s') (FrT.back s2 f)⟩
theorem sE_rep {a : IE} {b : IE} (ihE_a : SndE c n G a) (ihE_b : SndE c n G b) : SndE c n G (.rep a b) := by
    intro T W sc X  e  hx  hc  Mc  H0  H  O  P  r  σ  hs  Q  h
    obtain ⟨l, rr, p, rfl, hf, ha, hb⟩ := iv_rep hc
    refine PE.we (pe_op (op_repD (Mi := MM Mc P (eiE a))) pe_we pe_we) ?_
    have h : Sat ((evE T G a r).bind fun x => (evE T G b r).bind fun y => repD x y) (okE X.K true (MM Mc P (etE (.rep a b))) (MM Mc P (eiE a)) H Q) (exE c.xc X.K W σ H) := h
    refine ihE_a hx ha hs (Sat.mono (Sat.bind h) (fun x _ h1 v H1 s1 r1 => ?_) fun z hz => hz)
    refine ihE_b hx hb (hs.grow s1) (Sat.mono (Sat.bind h1) (fun y _ h2 u H2 s2 r2 => ?_) fun z hz => exE.same s1 hz)
    obtain ⟨z, ez, hz⟩ := Sat.val h2 fun z => repD_ex
    rw [hf] at r1
    obtain ⟨xs, k, rfl, rfl⟩ : ∃ xs k, x = .lst xs ∧ y = .int k := by
      unfold repD at ez
      split at ez
      · exact ⟨_, _, rfl, rfl⟩
      · cases ez
    obtain ⟨pp, vs, ev, n0, e1, rs⟩ := Res.fr r1
    exact ⟨_, .int k, z, pp, vs, _, rfl, ev, s2 _ _ e1, Reps.less (fun _ z => .inl z) (Reps.same s2 rs), (r2.repT ((hs.trk (etE b)).same s1)).int, ez, fun w H' s' f => hz w H' ((s1.trans s2).trans s') (FrT.back (s1.trans s2) f)⟩
theorem sE_neg {a : IE} (ihE_a : SndE c n G a) : SndE c n G (.neg a) := by
    intro T W sc X  e  hx  hc  Mc  H0  H  O  P  r  σ  hs  Q  h
    obtain ⟨l, p, rfl, ha⟩ := iv_neg hc
    refine PE.we (pe_un un_neg pe_we) ?_
    refine ihE_a hx ha hs (Sat.mono (Sat.bind (show Sat ((evE T G a r).bind negD) _ _ from h)) (fun x _ h1 v H1 s1 r1 => ?_) fun z hz => hz)
    obtain ⟨z, ez, hz⟩ := Sat.val h1 fun z => negD_ex
    obtain ⟨i, rfl⟩ : ∃ i, x = .int i := by
      unfold negD at ez
      split at ez
      · exact ⟨_, rfl⟩
      · cases ez
    cases ez
    exact ⟨i, (r1.repT (hs.trk _)).int, hz _ H1 s1 rfl⟩
theorem sE_cmp {o : CmpOp} {a : IE} {b : IE} (ihE_a : SndE c n G a) (ihE_b : SndE c n G b) : SndE c n G (.cmp o a b) := by
    intro T W sc X  e  hx  hc  Mc  H0  H  O  P  r  σ  hs  Q  h
    obtain ⟨l, rr, p, rfl, hm, ha, hb⟩ := iv_cmp hc
    refine PE.we (pe_cmpR (op_cmp hx.hu) pe_we pe_we hm) ?_
    refine two (fra := frE c a) (frb := frE c b) (ihE_a hx ha hs) (fun s => ihE_b hx hb (hs.grow s)) (hs.trk _) (hs.trk _) h fun x y v u H2 s2 r1 r2 hh => ?_
    obtain ⟨z, ez, hz⟩ := Sat.val (Sat.bind hh) fun z => cmpD_ex
    exact ⟨x, y, z, r1.free, r2.free, ez, hz _ H2 s2 rfl⟩
theorem sE_cmp2 {o : CmpOp} {q : CmpOp} {a : IE} {b : IE} {d : IE} (ihE_a : SndE c n G a) (ihE_b : SndE c n G b) (ihE_d : SndE c n G d) : SndE c n G (.cmp2 o q a b d) := by
    intro T W sc X  e  hx  hc  Mc  H0  H  O  P  r  σ  hs  Q  h
    obtain ⟨l, rr, r2, p, rfl, hm, ha, hb, hd⟩ := iv_cmp2 hc
    refine PE.we (pe_chain (op_cmp hx.hu) (op_cmp hx.hu) pe_we pe_we pe_we hm) ?_
    refine two (fra := frE c a) (frb := frE c b) (ihE_a hx ha hs) (fun s => ihE_b hx hb (hs.grow s)) (hs.trk _) (hs.trk _) h fun x y v u H2 s2 r1 r2 hh => ?_
    obtain ⟨z, ez, hz⟩ := Sat.val (Sat.bind hh) fun z => cmpD_ex
    refine ⟨x, y, z, r1.free, r2.free, ez, z, rfl, ?_⟩
    cases z with
    | false => exact ite_ff ((show okE _ _ _ _ _ _ (D.bl false) from hz) _ H2 s2 rfl)
    | true =>
      rw [if_pos rfl] at hz ⊢
      refine ihE_d hx hd (hs.grow s2) (Sat.mono (Sat.bind hz) (fun w _ h3 u3 H3 s3 r3 => ?_) fun z hz => exE.same s2 hz)
      obtain ⟨z4, ez4, hz4⟩ := Sat.val (Sat.bind h3) fun z => cmpD_ex
      exact ⟨y, w, z4, r2.free.same s3, (r3.repT ((hs.trk _).same s2)).free, ez4, hz4 _ H3 (s2.trans s3) rfl⟩
theorem sE_cmp3 {o : CmpOp} {q : CmpOp} {q3 : CmpOp} {a : IE} {b : IE} {d : IE} {f : IE} (ihE_a : SndE c n G a) (ihE_b : SndE c n G b) (ihE_d : SndE c n G d) (ihE_f : SndE c n G f) : SndE c n G (.cmp3 o q q3 a b d f) := by
    intro T W sc X  e  hx  hc  Mc  H0  H  O  P  r  σ  hs  Q  h
    obtain ⟨l, rr, r2, rr3, p, rfl, hm, ha, hb, hd, hf⟩ := iv_cmp3 hc
    refine PE.we (pe_chain3 (op_cmp hx.hu) (op_cmp hx.hu) (op_cmp hx.hu) pe_we pe_we pe_we pe_we hm) ?_
    refine two (fra := frE c a) (frb := frE c b) (ihE_a hx ha hs) (fun s => ihE_b hx hb (hs.grow s)) (hs.trk _) (hs.trk _) h fun x y v u H2 s2 r1 r2 hh => ?_
    obtain ⟨z, ez, hz⟩ := Sat.val (Sat.bind hh) fun z => cmpD_ex
    refine ⟨x, y, z, r1.free, r2.free, ez, z, rfl, ?_⟩
    cases z with
    | false => exact ite_ff ((show okE _ _ _ _ _ _ (D.bl false) from hz) _ H2 s2 rfl)
    | true =>
      rw [if_pos rfl] at hz ⊢
      refine ihE_d hx hd (hs.grow s2) (Sat.mono (Sat.bind hz) (fun w _ h3 u3 H3 s3 r3 => ?_) fun z hz => exE.same s2 hz)
      obtain ⟨z4, ez4, hz4⟩ := Sat.val (Sat.bind h3) fun z => cmpD_ex
      refine ⟨y, w, z4, r2.free.same s3, (r3.repT ((hs.trk _).same s2)).free, ez4, z4, rfl, ?_⟩
      cases z4 with
      | false => exact ite_ff ((show okE _ _ _ _ _ _ (D.bl false) from hz4) _ H3 (s2.trans s3) rfl)
      | true =>
        rw [if_pos rfl] at hz4 ⊢
        refine ihE_f hx hf (hs.grow (s2.trans s3)) (Sat.mono (Sat.bind hz4) (fun w5 _ h5 u5 H5 s5 r5 => ?_) fun z hz => exE.same (s2.trans s3) hz)
        obtain ⟨z6, ez6, hz6⟩ := Sat.val (Sat.bind h5) fun z => cmpD_ex
        exact ⟨w, w5, z6, (r3.repT ((hs.trk _).same s2)).free.same s5, (r5.repT ((hs.trk _).same (s2.trans s3))).free, ez6, hz6 _ H5 ((s2.trans s3).trans s5) rfl⟩
theorem sE_not {a : IE} (ihE_a : SndE c n G a) : SndE c n G (.not a) := by
    intro T W sc X  e  hx  hc  Mc  H0  H  O  P  r  σ  hs  Q  h
    obtain ⟨l, p, rfl, ha⟩ := iv_not hc
    refine PE.we (pe_not pe_we) ?_
    refine ihE_a hx ha hs (Sat.mono (Sat.bind (show Sat ((evE T G a r).bind fun x => (toB x).bind fun b => R.ok (D.bl (!b))) _ _ from h)) (fun x _ h1 v H1 s1 r1 => ?_) fun z hz => hz)
    obtain ⟨z, ez, hz⟩ := Sat.val (Sat.bind h1) fun z => toB_ex
    have e2 := toB_ok ez
    subst e2
    exact ⟨z, (r1.repT (hs.trk _)).bl, hz _ H1 s1 rfl⟩
theorem sE_and {es : Es} (ihAnd_es : SndAnd c n G es) : SndE c n G (.and es) := by
    intro T W sc X  e  hx  hc  Mc  H0  H  O  P  r  σ  hs  Q  h
    obtain ⟨l, p, rfl, ha⟩ := iv_and hc
    exact ihAnd_es hx ha hs h
theorem sE_or {es : Es} (ihOr_es : SndOr c n G es) : SndE c n G (.or es) := by
    intro T W sc X  e  hx  hc  Mc  H0  H  O  P  r  σ  hs  Q  h
    obtain ⟨l, p, rfl, ha⟩ := iv_or hc
    exact ihOr_es hx ha hs h
theorem sE_ifx {t : IE} {a : IE} {b : IE} (ihT_t : SndT c n G t) (ihE_a : SndE c n G a) (ihE_b : SndE c n G b) : SndE c n G (.ifx t a b) := by
    intro T W sc X  e  hx  hc  Mc  H0  H  O  P  r  σ  hs  Q  h
    obtain ⟨l, r1, r2, p, rfl, ht, ha, hb⟩ := iv_ifx hc
    refine PE.we (pe_ifExp pt_wt pe_we pe_we) ?_
    have h : Sat ((evE T G t r).bind fun x => (toB x).bind fun k => if k = true then evE T G a r else evE T G b r) (okE X.K false (MM Mc P (etE a ++ etE b)) (MM Mc P (eiE a ++ eiE b)) H Q) (exE c.xc X.K W σ H) := h
    refine ihT_t hx ht hs (Q := fun b' H1 => if b' = true then WE X r1 σ H1 Q else WE X r2 σ H1 Q) (Sat.mono (Sat.bind h) (fun x _ h1 => Sat.mono (Sat.bind h1) (fun k _ h2 H1 s1 => ?_) fun z hz => hz) fun z hz => hz)
    cases k with
    | true =>
      rw [if_pos rfl] at h2 ⊢
      exact ihE_a hx ha (hs.grow s1) (Sat.mono h2 (fun d _ hd v H2 s2 rd => hd v H2 (s1.trans s2) (Res.of_rep ((rd.repT ((hs.trk _).same s1)).less MM.l MM.l))) fun z hz => exE.same s1 hz)
    | false =>
      rw [if_neg Bool.false_ne_true] at h2 ⊢
      exact ihE_b hx hb (hs.grow s1) (Sat.mono h2 (fun d _ hd v H2 s2 rd => hd v H2 (s1.trans s2) (Res.of_rep ((rd.repT ((hs.trk _).same s1)).less MM.r MM.r))) fun z hz => exE.same s1 hz)
theorem sE_tup {es : Es} (ihS_es : SndS c n G es) : SndE c n G (.tup es) := by
    intro T W sc X  e  hx  hc  Mc  H0  H  O  P  r  σ  hs  Q  h
    obtain ⟨l, k, p, rfl, hln, ha⟩ := iv_tup hc
    refine PE.we (pe_tup pa_wa) ?_
    refine ihS_es hx ha hs (Sat.mono (Sat.bind (show Sat ((evEs T G es r).bind fun xs => R.ok (D.tup xs)) _ _ from h)) (fun xs ex hq vs H1 s1 rs => ⟨?_, fun q hn => ?_⟩) fun z hz => hz)
    · rw [rs.len, evEs_len ex, sizeLine_eq]; omega
    · have hq : okE _ _ _ _ _ _ (D.tup xs) := hq
      exact hq _ _ (s1.trans (same_new hn)) (Res.of_rep (FrT.tup (H := H) hn (RepL.reps (rs.less MM.l MM.r))))
theorem sE_lst {es : Es} (ihS_es : SndS c n G es) : SndE c n G (.lst es) := by
    intro T W sc X  e  hx  hc  Mc  H0  H  O  P  r  σ  hs  Q  h
    obtain ⟨l, p, rfl, hln, ha⟩ := iv_lst hc
    refine PE.we (pe_lst pa_wa) ?_
    refine ihS_es hx ha hs (Sat.mono (Sat.bind (show Sat ((evEs T G es r).bind fun xs => R.ok (D.lst xs)) _ _ from h)) (fun xs ex hq vs H1 s1 rs => ⟨?_, fun q hn => ?_⟩) fun z hz => hz)
    · rw [rs.len, evEs_len ex, sizeLine_eq]; omega
    · have hq : okE _ _ _ _ _ _ (D.lst xs) := hq
      exact hq _ _ (s1.trans (same_new hn)) (FrT.lst s1 hn (RepL.reps (rs.less MM.l MM.r)))
theorem ckE_slice {c : Ck} {N : List Str} {sc : Scope} {e : IE} {a b s : Option Expr} {p : Pos} : ckE c N sc e (.Slice a b s p) = false := by
  cases e with
  | u1 k a => cases k <;> rfl
  | u2 k a b => cases k <;> rfl
  | _ => rfl
theorem kyOf_flat {d : D} {k : Key} (h : kyOf d = some k) : flat d = true := by
  cases d <;> first | rfl | cases h
theorem kysOf_flat : ∀ {ds : List D} {ks : List Key}, kysOf ds = some ks → flats ds = true
  | [], _, _ => rfl
  | d :: ds, ks, h => by
    have h : ((kyOf d).bind fun k => (kysOf ds).map (k :: ·)) = some ks := h
    cases e : kyOf d with
    | none => (rw [e] at h; cases h)
    | some k =>
      rw [e] at h
      have h : (kysOf ds).map (k :: ·) = some ks := h
      cases e2 : kysOf ds with
      | none => rw [e2] at h; cases h
      | some js =>
        show (flat d && flats ds) = true
        rw [kyOf_flat e, kysOf_flat e2]; rfl
theorem subD_flat {x y z : D} (h : subD x y = .ok z) : flat y = true := by
  unfold subD at h
  split at h
  · rfl
  · rfl
  · rfl
  · split at h
    · rename_i e; exact kyOf_flat e
    · cases h
  · split at h
    · rename_i e
      show flats _ = true
      exact kysOf_flat e
    · cases h
  · cases h
theorem sE_sub {a : IE} {i : IE} (ihE_a : SndE c n G a) (ihE_i : SndE c n G i) : SndE c n G (.sub a i) := by
    intro T W sc X  e  hx  hc  Mc  H0  H  O  P  r  σ  hs  Q  h
    obtain ⟨l, rr, p, rfl, ha, hb⟩ := iv_sub hc
    have hp : PlainIx rr := fun o i => by cases rr <;> first | rfl | (cases i <;> exact Bool.noConfusion hb) | (exfalso; rw [ckE_slice] at hb; cases hb)
    refine PE.we (pe_ix (ix_sub (Mi := MM Mc P (eiE a)) (by have := hx.hu; omega)) pe_we pe_we hp) ?_
    refine two (fra := frE c a) (frb := frE c i) (ihE_a hx ha hs) (fun s => ihE_i hx hb (hs.grow s)) (hs.trk _) (hs.trk _) h fun x y v u H2 s2 r1 r2 hh => ?_
    obtain ⟨z, ez, hz⟩ := Sat.val hh fun z => subD_ex
    refine ⟨x, y, z, r1, ?_, ez, fun w rw' => hz w H2 s2 (Res.of_rep (RepT.of rw'))⟩
    exact RepT.flatT (subD_flat ez) r2
theorem sE_slc {a : IE} {lo : IO} {hi : IO} (ihE_a : SndE c n G a) (ihO_lo : SndO c n G lo) (ihO_hi : SndO c n G hi) : SndE c n G (.slc a lo hi) := by
    intro T W sc X  e  hx  hc  Mc  H0  H  O  P  r  σ  hs  Q  h
    obtain ⟨o, l, u, p2, p, rfl, ha, hl, hu⟩ := iv_slc hc
    refine PE.we (pe_slice (sl_slc (Mi := MM Mc P (eiE a))) pe_we (po_of (X := X) (e := l)) (po_of (X := X) (e := u))) ?_
    have h : Sat ((evE T G a r).bind fun x => (evO T G lo r).bind fun l => (evO T G hi r).bind fun h => slcD x l h) (okE X.K true (MM Mc P (etE (.slc a lo hi))) (MM Mc P (eiE a)) H Q) (exE c.xc X.K W σ H) := h
    refine ihE_a hx ha hs (Sat.mono (Sat.bind h) (fun x _ h1 v H1 s1 r1 => ?_) fun z hz => hz)
    refine ihO_lo hx hl (hs.grow s1) (Sat.mono (Sat.bind h1) (fun l _ h2 H2 s2 => ?_) fun z hz => exE.same s1 hz)
    refine ihO_hi hx hu (hs.grow (s1.trans s2)) (Sat.mono (Sat.bind h2) (fun l _ h3 H3 s3 => ?_) fun z hz => exE.same (s1.trans s2) hz)
    obtain ⟨z, ez, hz⟩ := Sat.val h3 fun z => slcD_ex
    exact ⟨x, z, (((r1.repT (hs.trk _)).less (fun _ z => z.elim) fun _ z => z).same s2).same s3, ez, fun w H' s' f => hz w H' (((s1.trans s2).trans s3).trans s') (FrT.back ((s1.trans s2).trans s3) f)⟩
theorem lrevD_ex {a z : D} (h : lrevD a = .ex z) : False := by
  unfold lrevD at h
  split at h <;> cases h
theorem lrgD_ex {a b z : D} (h : lrgD a b = .ex z) : False := by
  unfold lrgD at h
  split at h
  · split at h <;> cases h
  · cases h
theorem sE_lrev {a : IE} (ihE_a : SndE c n G a) : SndE c n G (.lrev a) := by
    intro T W sc X  e  hx  hc  Mc  H0  H  O  P  r  σ  hs  Q  h
    obtain ⟨p1, p2, q, p3, p, rfl, hb, hb2, ha, h0⟩ := iv_lrev hc
    obtain ⟨b1, b2, b3, b4⟩ := hx.blt hb
    obtain ⟨d1, d2, d3, d4⟩ := hx.blt hb2
    have ne : ∀ z p, q ≠ .Starred z p := fun z p e => by subst e; rw [ckE_star] at ha; cases ha
    refine PE.we (pe_lstRev (hx.calm h0) b1 b2 d1 d2 pe_we (star_of (es := []) (env := X.env) ne)) ?_
    refine ihE_a hx ha hs (Sat.mono (Sat.bind (show Sat ((evE T G a r).bind lrevD) _ _ from h)) (fun x _ h1 v H1 s1 r1 => ?_) fun z hz => hz)
    obtain ⟨z, ez, hz⟩ := Sat.val h1 fun z => lrevD_ex
    obtain ⟨ds, rfl, rfl⟩ : ∃ ds, x = .lst ds ∧ z = .lst ds.reverse := by
      unfold lrevD at ez
      split at ez
      · cases ez; exact ⟨_, rfl, rfl⟩
      · cases ez
    obtain ⟨ad, vs, rfl, hl, hr⟩ := r1.repT (hs.trk _)
    exact ⟨ad, vs, rfl, hl.sq, fun q hq => hz _ _ (s1.trans (same_new hq)) (FrT.lst s1 hq (Reps.reverse hr))⟩
theorem ssetD_ex {a z : D} (h : ssetD a = .ex z) : False := by
  unfold ssetD at h
  split at h
  · split at h
    · split at h <;> cases h
    · cases h
  · cases h
theorem dedI_mem : ∀ {ns : List Int} {k : Int}, k ∈ dedI ns ↔ k ∈ ns
  | [], k => Iff.rfl
  | x :: r, k => by
    unfold dedI
    split
    · rename_i h
      rw [dedI_mem, List.mem_cons]
      exact ⟨.inr, fun z => z.elim (fun e => by rw [e]; exact h) id⟩
    · rw [List.mem_cons, List.mem_cons, dedI_mem]
theorem dedI_nodup : ∀ (ns : List Int), (dedI ns).Nodup
  | [] => List.nodup_nil
  | x :: r => by
    unfold dedI
    split
    · exact dedI_nodup r
    · rename_i h
      exact List.nodup_cons.mpr ⟨fun z => h (dedI_mem.mp z), dedI_nodup r⟩
theorem sset_uniq {ns ns' : List Int} (h : ns'.Pairwise (· < ·)) (m : ∀ k : Int, k ∈ ns' ↔ k ∈ ns) : ns' = sortI (dedI ns) := by
  have nd : ns'.Nodup := h.imp fun z => Int.ne_of_lt z
  refine sorted_uniq (((List.perm_ext_iff_of_nodup nd (dedI_nodup ns)).mpr fun k => (m k).trans dedI_mem.symm).trans (sortI_perm _).symm) (h.imp fun z => Int.le_of_lt z) (sortI_sorted _)
theorem sE_sset {a : IE} (ihE_a : SndE c n G a) : SndE c n G (.sset a) := by
    intro T W sc X  e  hx  hc  Mc  H0  H  O  P  r  σ  hs  Q  h
    obtain ⟨p1, p2, q, p3, p, rfl, hb, hb2, ha, h0⟩ := iv_sset hc
    obtain ⟨b1, b2, b3, b4⟩ := hx.blt hb
    obtain ⟨d1, d2, d3, d4⟩ := hx.blt hb2
    have ne : ∀ z p, q ≠ .Starred z p := fun z p e => by subst e; rw [ckE_star] at ha; cases ha
    refine PE.we (pe_sset (hx.calm h0) b1 b2 d1 d2 pe_we (star_of (es := []) (env := X.env) ne)) ?_
    refine ihE_a hx ha hs (Sat.mono (Sat.bind (show Sat ((evE T G a r).bind ssetD) _ _ from h)) (fun x _ h1 v H1 s1 r1 => ?_) fun z hz => hz)
    obtain ⟨z, ez, hz⟩ := Sat.val h1 fun z => ssetD_ex
    obtain ⟨ns, rfl, hl, rfl⟩ : ∃ ns : List Int, x = .lst (ns.map D.int) ∧ ns.length ≤ 4000 ∧ z = .lst ((sortI (dedI ns)).map .int) := by
      unfold ssetD at ez
      split at ez
      · rename_i xs
        split at ez
        · rename_i ns hn
          split at ez
          · rename_i hk
            cases ez
            exact ⟨ns, by rw [intsOf_some hn], hk, rfl⟩
          · cases ez
        · cases ez
      · cases ez
    obtain ⟨ad, vs, rfl, hl2, hr⟩ := r1.repT (hs.trk _)
    obtain rfl := Reps.ints hr
    refine ⟨ad, ns, rfl, hl2.sq, hl, fun ns' q hp hm hq => hz _ _ (s1.trans (same_new hq)) ?_⟩
    rw [sset_uniq hp hm]
    exact FrT.lst s1 hq Reps.of_ints
theorem flsD_ex {a z : D} (h : flsD a = .ex z) : False := by
  unfold flsD at h
  split at h
  · split at h <;> cases h
  · cases h
theorem sE_fls {a : IE} (ihE_a : SndE c n G a) : SndE c n G (.fls a) := by
    intro T W sc X  e  hx  hc  Mc  H0  H  O  P  r  σ  hs  Q  h
    obtain ⟨_, hf, ha⟩ := iv_fls hc
    refine ihE_a hx ha hs (Sat.mono (Sat.bind (show Sat ((evE T G a r).bind flsD) _ _ from h)) (fun x _ h1 v H1 s1 r1 => ?_) fun z hz => hz)
    obtain ⟨z, ez, hz⟩ := Sat.val h1 fun z => flsD_ex
    obtain ⟨ds, rfl, hfl, rfl⟩ : ∃ ds, x = .lst ds ∧ flats ds = true ∧ z = .lst ds := by
      unfold flsD at ez
      split at ez
      · split at ez
        · rename_i hk
          cases ez; exact ⟨_, rfl, hk, rfl⟩
        · cases ez
      · cases ez
    refine hz v H1 s1 ?_
    rw [hf] at r1
    obtain ⟨ad, vs, e1, e2, e3, hr⟩ := (show FrT X.K (MM Mc P (eiE a)) H H1 (.lst ds) v from r1)
    exact (show FrT X.K (MM Mc P []) H H1 (.lst ds) v from ⟨ad, vs, e1, e2, e3, Reps.flat_any ds vs hfl hr⟩)
theorem idxD_ex {xs : List D} {a z : D} (h : idxD xs a = .ex z) : False := by
  unfold idxD at h
  split at h
  · split at h <;> cases h
  · cases h
theorem findIdx_some {α : Type} {p : α → Bool} : ∀ {xs : List α} {j : Nat}, xs.findIdx? p = some j → (∃ z, xs[j]? = some z ∧ p z = true) ∧ ∀ (m : Nat) (z : α), m < j → xs[m]? = some z → p z = false := fun {xs j} h => by
  rw [List.findIdx?_eq_some_iff_getElem] at h
  obtain ⟨hj, h1, h2⟩ := h
  refine ⟨⟨xs[j], List.getElem?_eq_getElem hj, h1⟩, fun m z hm hz => ?_⟩
  have hml : m < xs.length := by omega
  rw [List.getElem?_eq_getElem hml] at hz
  cases hz
  have := h2 m hm
  simpa using this
theorem sE_idx {a b : IE} (ihE_a : SndE c n G a) (ihE_b : SndE c n G b) : SndE c n G (.idx a b) := by
    intro T W sc X  e  hx  hc  Mc  H0  H  O  P  r  σ  hs  Q  h
    obtain ⟨o, ap, q, p, rfl, hl, hn, ha, hb⟩ := iv_idx hc
    cases o <;> first | exact Bool.noConfusion hn | skip
    have ne : ∀ z p, q ≠ .Starred z p := fun z p e => by subst e; rw [ckE_star] at hb; cases hb
    have s1 := star_of (es := []) (env := X.env) ne
    refine PE.we (pe_bm PySem.F.plainAttrs_list PySem.F.slot_list_index PySem.F.type_list_index mt_index pe_we (pa_cons pe_we pa_nil s1) rfl (by rw [s1]; rfl) hl s1 rfl) ?_
    have h : Sat ((evE T G a r).bind fun x => (listD x).bind fun xs => (evE T G b r).bind fun y => idxD xs y) (okE X.K false (MM Mc P (etE (.idx a b))) (MM Mc P (eiE (.idx a b))) H Q) (exE c.xc X.K W σ H) := h
    refine ihE_a hx ha hs (Sat.mono (Sat.bind h) (fun x _ h1 v H1 s1 r1 => ?_) fun z hz => hz)
    obtain ⟨ds, ed, h2⟩ := Sat.val (Sat.bind h1) fun z q => by
      unfold listD at q
      split at q <;> cases q
    obtain rfl : x = .lst ds := by
      unfold listD at ed
      split at ed
      · cases ed; rfl
      · cases ed
    have rr := r1.repT (hs.trk _)
    obtain ⟨ad, vs, rfl, hl1, hr⟩ := id rr
    refine ⟨.inl ⟨rfl, vs, hl1.sq⟩, ?_⟩
    refine ihE_b hx hb (hs.grow s1) (Sat.mono (Sat.bind h2) (fun y _ h3 u H2 s2 r2 => ?_) fun z hz => exE.same s1 hz)
    obtain ⟨z, ez, hz⟩ := Sat.val h3 fun z => idxD_ex
    obtain ⟨ad2, vs2, e2, hl2, hr2⟩ := RepT.same s2 rr
    unfold idxD at ez
    split at ez
    · rename_i hf
      rw [Bool.and_eq_true] at hf
      split at ez
      · rename_i j hj
        cases ez
        obtain ⟨⟨w, hw, hwd⟩, hlt⟩ := findIdx_some hj
        have eu := (r2.repT ((hs.trk _).same s1)).flatV hf.1
        have ev := Reps.flatV hf.2 hr2
        subst eu ev
        have fl : ∀ d ∈ ds, flatD d = true := fun d hd => List.all_eq_true.mp hf.2 d hd
        refine ⟨ad2, _, _, j, vOf w, e2, rfl, hl2.sq, flatV_vOf _, ?_, by rw [List.getElem?_map, hw]; rfl, ?_, fun m z' hm hz' => ?_, hz _ H2 (s1.trans s2) rfl⟩
        · rw [List.all_map, List.all_eq_true]; intro z _; exact flatV_vOf z
        · rw [eqV_vOf (fl w (List.mem_of_getElem? hw)) hf.1]; exact hwd
        · rw [List.getElem?_map] at hz'
          cases q3 : ds[m]? with
          | none => rw [q3] at hz'; cases hz'
          | some w' =>
            rw [q3] at hz'
            cases hz'
            rw [eqV_vOf (fl w' (List.mem_of_getElem? q3)) hf.1]
            exact hlt m w' hm q3
      · cases ez
    · cases ez
theorem sE_lrg {a b : IE} (ihE_a : SndE c n G a) (ihE_b : SndE c n G b) : SndE c n G (.lrg a b) := by
    intro T W sc X  e  hx  hc  Mc  H0  H  O  P  r  σ  hs  Q  h
    obtain ⟨p1, p2, q, q2, p3, p, rfl, hb, hb2, ha, hb', h0⟩ := iv_lrg hc
    obtain ⟨b1, b2, b3, b4⟩ := hx.blt hb
    obtain ⟨d1, d2, d3, d4⟩ := hx.blt hb2
    have ne : ∀ z p, q ≠ .Starred z p := fun z p e => by subst e; rw [ckE_star] at ha; cases ha
    have ne2 : ∀ z p, q2 ≠ .Starred z p := fun z p e => by subst e; rw [ckE_star] at hb'; cases hb'
    have s1 := star_of (es := [q2]) (env := X.env) ne
    have s2 := star_of (es := []) (env := X.env) ne2
    refine PE.we (pe_listRg (hx.calm h0) b1 b2 (prg_2 d1 d2 pe_we pe_we s1 s2 (by rw [s2]; rfl))) ?_
    have h : Sat ((evE T G a r).bind fun x => (evE T G b r).bind fun y => lrgD x y) (okE X.K true (MM Mc P (etE (.lrg a b))) (MM Mc P (eiE (.lrg a b))) H Q) (exE c.xc X.K W σ H) := h
    refine two (fra := frE c a) (frb := frE c b) (ihE_a hx ha hs) (fun s => ihE_b hx hb' (hs.grow s)) (hs.trk _) (hs.trk _) h fun x y v u H2 s2 r1 r2 hh => ?_
    obtain ⟨z, ez, hz⟩ := Sat.val hh fun z => lrgD_ex
    obtain ⟨i, j, rfl, rfl, hr, hl, rfl⟩ : ∃ i j, x = .int i ∧ y = .int j ∧ rngOk i j = true ∧ j - i ≤ 100000 ∧ z = .lst ((rangeI i (j - i).toNat).map .int) := by
      unfold lrgD at ez
      split at ez
      · split at ez
        · rename_i hk
          rw [Bool.and_eq_true, decide_eq_true_eq] at hk
          cases ez
          exact ⟨_, _, rfl, rfl, hk.1, hk.2, rfl⟩
        · cases ez
      · cases ez
    have hr' : -(2 ^ 62) ≤ i ∧ i < 2 ^ 62 ∧ -(2 ^ 62) ≤ j ∧ j < 2 ^ 62 := by
      unfold rngOk at hr
      simpa only [Bool.and_eq_true, decide_eq_true_eq] using hr
    obtain ⟨o1, o2, o3, o4⟩ := hr'
    refine ⟨i, j, r1.int, r2.int, ⟨o1, o2, o3, o4, by omega⟩, fun q hq => hz _ _ (s2.trans (same_new hq)) (FrT.lst s2 hq ?_)⟩
    have e : rgV i j = (rangeI i (j - i).toNat).map V.int := by unfold rgV rangeI; rw [List.map_map]; rfl
    rw [e]
    exact Reps.of_ints
theorem sE_bi {f : B} {es : Es} (ihS_es : SndS c n G es) : SndE c n G (.bi f es) := by
    intro T W sc X  e  hx  hc  Mc  H0  H  O  P  r  σ  hs  Q  h
    obtain ⟨x, p1, l, p, rfl, hh0, hf, rfl, hb, hl, ha⟩ := iv_bi hc
    obtain ⟨b1, b2, b3, b4⟩ := hx.blt hb
    have hstar := ckS_star (env := X.env) ha
    cases es with
    | nil => cases hl
    | cons e1 es =>
    cases l with
    | nil => cases ha
    | cons a1 l =>
    have h1 : (ckE c X.N sc e1 a1 && ckS c X.N sc es l) = true := ha
    rw [Bool.and_eq_true] at h1
    have ne : ∀ x p, a1 ≠ .Starred x p := fun x p q => by subst q; rw [ckE_star] at h1; cases h1.1
    have e0 := star_of (es := l) (env := X.env) ne
    have e2 : (backTo p (starEach l X.env)).any (·.1) = false := by rw [back_any]; exact ckS_star h1.2
    have go : tCB (rBu X.K (MM Mc P (eiE (.bi f (.cons e1 es)))) f) (WA X (a1 :: l)) σ H Q := by
      refine ihS_es hx ha hs (Sat.mono (Sat.bind (show Sat ((evEs T G (.cons e1 es) r).bind fun xs => biD f xs) _ _ from h)) (fun xs ex hq vs H1 s1 rs => ?_) fun z hz => hz)
      obtain ⟨z, ez, hz⟩ := Sat.val hq fun z => biD_ex
      refine ⟨xs, z, rs.ts, ez, fun v H' s' f' => hz v H' (s1.trans s') ?_⟩
      show Res X.K f.fr _ _ H H' z v
      unfold Res
      split at f'
      · rename_i e; rw [if_pos e]; exact FrT.back s1 f'
      · rename_i e; rw [if_neg e]; exact f'
    cases f <;> first
      | exact PE.we (pe_callB (call_bu hf (fun z => hx.calm (hh0 z))) b1 b2 (bi_boot hf) pa_wa b4 b3 e0 e2) go
      | exact PE.we (pe_callTy (call_bu hf (fun z => hx.calm (hh0 z))) b1 b2 (bi_boot hf) pa_wa b4 b3 e0 e2) go
      | cases hf
theorem sE_isi {a : IE} {t : String} (ihE_a : SndE c n G a) : SndE c n G (.isi a t) := by
    intro T W sc X  e  hx  hc  Mc  H0  H  O  P  r  σ  hs  Q  h
    obtain ⟨f, p1, x, y, p2, p, rfl, rfl, hb, rfl, ht, hb2, ha⟩ := iv_isi hc
    obtain ⟨b1, b2, b3, b4⟩ := hx.blt hb
    obtain ⟨d1, d2, d3, d4⟩ := hx.blt hb2
    have ne : ∀ z p, x ≠ .Starred z p := fun z p q => by subst q; rw [ckE_star] at ha; cases ha
    have e0 := star_of (es := [Expr.Name (Str.ofString t) p2]) (env := X.env) ne
    refine PE.we (pe_callB call_isD b1 b2 boot_isinstance (pa_cons pe_we (pa_cons (pe_bltn (v := .ty t) d1 d2 (ty_boot ht) rfl d4 d3) pa_nil) e0) b4 b3 e0 rfl) ?_
    refine ihE_a hx ha hs (Sat.mono (Sat.bind (show Sat ((evE T G a r).bind fun x => blR (isiD x t)) _ _ from h)) (fun x _ h1 v H1 s1 r1 => ?_) fun z hz => hz)
    obtain ⟨z, ez, hz⟩ := Sat.val (Sat.bind h1) fun z => isiD_ex
    exact ⟨x, v, t, z, rfl, (r1.repT (hs.trk _)).free, ez, hz _ H1 s1 rfl⟩
theorem pe_callS0 {X : Cx} {CX : CXT} {k : Nat} {f : Addr} {fd : FuncData} {ps : List Str} {sp : Sp} {dvs : List V} {ds : List Value} {E : L2.St → XK} {x : Str} {p pos : Pos} (F : FnOk X.prog X.w X.K X.mg X.base CX k f fd ps sp) (hr : Room k X.A) (hg : Gl X x) (hm : X.mg x = some (.ref f)) (hk : PySem.W.keepIn X.K (.ref f) = true) (hb : Binds X.K fd ps ds) (hd : Vals dvs ds) (hx : ∀ σ, PassesAt CX X σ (E σ))
    (hdb : (x == ("__debug__" : Str)) = false) : PE X (.Call (.Name x p) [] [] pos) (tCallSD sp dvs E tNil) := by
  (refine ⟨fun pins s σ H Q I h => ?_⟩)
  (refine wpAny_Call_Name_kw (ld_glob I hg hm ?_ hdb))
  exact PySem.W.callWith_K0 I.kIn hk (run_fnSD (us := []) F hr hb hd (hx σ) I .nil h)
theorem sE_call {j : Nat} {es : Es} {ds : List D} {fl : Bool} (ihS_es : SndS c n G es) : SndE c n G (.call j es ds fl) := by
    intro T W sc X  e  hx  hc  Mc  H0  H  O  P  r  σ  hs  Q  h
    obtain ⟨x, p1, l, p, d, rfl, hj, rfl, k1, k2, k3, k4, k5, hg, hn, ha, hhot⟩ := iv_call hc
    obtain ⟨f, fd, m1, m2, m3, m4, _, mH⟩ := (hx.fn j d hj).ex
    obtain ⟨dvs, v1, v2⟩ := m4 (lenS es) k1 k2
    obtain ⟨t, pe, go⟩ : ∃ t : TA, PE X (.Call (.Name d.nm p1) l [] p) (tCallSD (spP c.xc X.K d.ps d.fr (G j)) ((d.dfl.drop (lenS es + d.dfl.length - d.ps)).map vOf) (fun σ => L2.WE W σ) t) ∧
        ∀ {Q : List V → Hp → Prop}, Sat (evEs T G es r) (fun ds => ∀ vs H', Same H H' → RepL X.K (MM Mc P (etS es)) (MM Mc P (eiS es)) H' ds vs → Q vs H') (exE c.xc X.K W σ H) → t σ H Q := by
      cases l with
      | nil =>
        cases es with
        | cons e1 es => cases ha
        | nil =>
        have h0 : c.hot = false := by
          cases q : c.hot with
          | false => rfl
          | true =>
            have z := hhot q
            unfold hotB at z
            rw [Bool.and_eq_true, Bool.and_eq_true] at z
            cases z.2.1
        exact ⟨tNil, pe_callS0 m3 (hx.room h0) (hx.gl hg) m1 m2 v2 v1 (fun σ => L2N.passAt hx.tk σ) (nmB_ok hn).1, fun {Q} hq => (show ∀ vs H', Same H H' → RepL X.K (MM Mc P []) (MM Mc P []) H' [] vs → Q vs H' from hq) [] H (Same.refl H) rfl⟩
      | cons a1 l =>
      have ne : ∀ x p, a1 ≠ .Starred x p := fun x p q => by
        subst q
        cases es with
        | nil => cases ha
        | cons e1 es =>
          have h1 : (ckE c X.N sc e1 (.Starred x p) && ckS c X.N sc es l) = true := ha
          rw [Bool.and_eq_true, ckE_star] at h1
          cases h1.1
      have e0 := star_of (es := l) (env := X.env) ne
      have e2 : (backTo p (starEach l X.env)).any (·.1) = false := by
        rw [back_any]
        cases es with
        | nil => cases ha
        | cons e1 es =>
          have h1 : (ckE c X.N sc e1 a1 && ckS c X.N sc es l) = true := ha
          rw [Bool.and_eq_true] at h1
          exact ckS_star h1.2
      cases h0 : c.hot with
      | false => exact ⟨WA X (a1 :: l), pe_callSD m3 (hx.room h0) (hx.gl hg) m1 m2 v2 v1 (fun σ => L2N.passAt hx.tk σ) pa_wa (nmB_ok hn).1 e0 e2, fun {Q} hq => ihS_es hx ha hs hq⟩
      | true =>
        have z := hhot h0
        unfold hotB at z
        rw [hj] at z
        simp only [Bool.and_eq_true, decide_eq_true_eq] at z
        obtain ⟨⟨z1, z2⟩, z3, z4⟩ := z
        have z2 := List.isEmpty_iff.mp z2
        have ed : (d.dfl.drop (lenS es + d.dfl.length - d.ps)).map vOf = [] := by rw [z2]; simp
        have ev : dvs = [] := by
          rw [ed] at v1
          cases v1; rfl
        subst ev
        rw [ed]
        have et : ∀ (sp : Sp) (E : L2.St → XK) (t : TA), tCallSD sp [] E t = tCallS sp E t := fun sp E t => by
          funext σ H Q
          show t σ H (fun vs H1 => sp (vs ++ []) H1 Q (E σ)) = t σ H fun vs H1 => sp vs H1 Q (E σ)
          simp only [List.append_nil]
        refine ⟨WA X (a1 :: l), ?_, fun {Q} hq => ihS_es hx ha hs hq⟩
        rw [et]
        exact L2H.pe_callH (mH z1) hx.roomH (hx.hotc h0) (hx.gl hg) m1 m2 v2 (fun σ => L2N.passAt hx.tk σ) pa_wa (nmB_ok hn).1 e0 e2
    refine PE.we pe ?_
    have h : Sat ((evEs T G es r).bind fun xs => (G j (xs ++ ds)).bind fun d => if (fl && !flat d) = true then R.no else .ok d) (okE X.K (frE c (.call j es ds fl)) (MM Mc P (etE (.call j es ds fl))) (MM Mc P (eiE (.call j es ds fl))) H Q) (exE c.xc X.K W σ H) := h
    refine go (Sat.mono (Sat.bind h) (fun xs ex hq vs H1 s1 rs => ?_) fun z hz => hz)
    have hfr : frE c (.call j es ds fl) = d.fr := by
      show (match c.fs[j]? with | some d => d.fr | none => false) = d.fr
      rw [hj]
    refine ⟨xs ++ ds, MM Mc P (etS es ++ eiS es), ?_, ?_, (hs.trk _).same s1, Sat.mono (Sat.bind hq) (fun y ey h2 v H' s' rv => ?_) fun z hz H' cls dx s' xr => hz H' cls dx (s1.trans s') xr⟩
    · rw [List.length_append, ← k3, evEs_len ex]
    · rw [← k5]
      exact RepL.app (rs.less MM.l MM.r) (vOfs_rep k4)
    · by_cases hfl : fl = true
      · subst hfl
        cases hfy : flat y with
        | false => rw [hfy] at h2; exact (show False from h2).elim
        | true =>
          rw [hfy] at h2
          have h2 : okE _ _ _ _ _ _ y := h2
          refine h2 v H' (s1.trans s') ?_
          rw [hfr]
          exact Res.flat hfy (Res.back s1 rv)
      · have hf0 : fl = false := Bool.eq_false_iff.mpr hfl
        subst hf0
        have h2 : okE _ _ _ _ _ _ y := h2
        refine h2 v H' (s1.trans s') ?_
        rw [hfr]
        exact Res.back s1 rv
theorem sE_callk {j : Nat} {es : Es} {a : IE} (ihS_es : SndS c n G es) (ihE_a : SndE c n G a) : SndE c n G (.callk j es a) := by
    intro T W sc X  e  hx  hc  Mc  H0  H  O  P  r  σ  hs  Q  h
    obtain ⟨x, p1, l, nm, v, kp, p, d, rfl, hj, rfl, k1, k2, k3, hg, hn, hl, ha, hv, h0⟩ := iv_callk hc
    obtain ⟨f, fd, m1, m2, m3, _, m5, _⟩ := (hx.fn j d hj).ex
    cases es with
    | nil => cases hl
    | cons e1 es =>
    cases l with
    | nil => cases ha
    | cons a1 l =>
    have h1 : (ckE c X.N sc e1 a1 && ckS c X.N sc es l) = true := ha
    rw [Bool.and_eq_true] at h1
    have ne : ∀ x p, a1 ≠ .Starred x p := fun x p q => by subst q; rw [ckE_star] at h1; cases h1.1
    have e0 := star_of (es := l) (env := X.env) ne
    have e2 : (backTo p (starEach (a1 :: l) X.env)).any (·.1) = false := by rw [back_any]; exact ckS_star ha
    have kb : KBn X.K fd (d.ns.take d.ps) (lenS (.cons e1 es)) [nm] (fun us ws => us ++ ws) (fun vs zs => vs ++ zs) := ⟨fun s us ws hin l1 l2 => by
      match ws, l2 with
      | [w], _ => exact m5 k1 nm k3 s us w hin (by rw [l1]; exact k2), fun r1 r2 => r1.append r2⟩
    refine PE.we (pe_callKD m3 (hx.room h0) (hx.gl hg) m1 m2 kb (fun σ => L2N.passAt hx.tk σ) pa_wa (pk_cons pe_we pk_nil) rfl rfl (nmB_ok hn).1 e0 (by rw [e2]; rfl)) ?_
    have h : Sat ((evEs T G (.cons e1 es) r).bind fun xs => (evE T G a r).bind fun y => G j (xs ++ [y])) (okE X.K (frE c (.callk j (.cons e1 es) a)) (MM Mc P (etE (.callk j (.cons e1 es) a))) (MM Mc P (eiE (.callk j (.cons e1 es) a))) H Q) (exE c.xc X.K W σ H) := h
    refine ihS_es hx ha hs (Sat.mono (Sat.bind h) (fun xs ex hq vs H1 s1 rs => ?_) fun z hz => hz)
    refine ihE_a hx hv (hs.grow s1) (Sat.mono (Sat.bind hq) (fun y ey hq2 u H2 s2 ru => ?_) fun z hz => exE.same s1 hz)
    have hfr : frE c (.callk j (.cons e1 es) a) = d.fr := by
      show (match c.fs[j]? with | some d => d.fr | none => false) = d.fr
      rw [hj]
    have lx := evEs_len ex
    let L := (etS (.cons e1 es) ++ etE a) ++ (eiS (.cons e1 es) ++ eiE a)
    have ry : Rep X.K (MM Mc P L) H2 y u := ((ru.repT ((hs.trk _).same s1)).less (MM.less fun i hi => List.mem_append_left _ (List.mem_append_right _ hi)) (MM.less fun i hi => List.mem_append_right _ (List.mem_append_right _ hi))).rep
    refine ⟨by rw [rs.len, lx], rfl, xs ++ [y], MM Mc P L, ?_, ?_, (hs.trk _).same (s1.trans s2), Sat.mono hq2 (fun z ez h2 v H' s' rv => ?_) fun z hz H' cls dx s' xr => hz H' cls dx ((s1.trans s2).trans s') xr⟩
    · rw [List.length_append, lx]; exact k2
    · refine RepL.app ((rs.less (MM.less fun i hi => ?_) (MM.less fun i hi => ?_)).same s2) (Reps.one ry)
      · exact List.mem_append_left _ (List.mem_append_left _ hi)
      · exact List.mem_append_right _ (List.mem_append_left _ hi)
    · have h2 : okE _ _ _ _ _ _ z := h2
      refine h2 v H' ((s1.trans s2).trans s') ?_
      rw [hfr]
      exact Res.back (s1.trans s2) rv
theorem sT_and {es : Es} (ihAndT_es : SndAndT c n G es) : SndT c n G (.and es) := by
    intro T W sc X  a  hx  hc  Mc  H0  H  O  P  r  σ  hs  Q  h
    obtain ⟨l, p, rfl, ha⟩ := iv_and hc
    have q := ihAndT_es (p := p) hx ha hs h
    exact fun pins s I => q _ pins s I
theorem sT_or {es : Es} (ihOrT_es : SndOrT c n G es) : SndT c n G (.or es) := by
    intro T W sc X  a  hx  hc  Mc  H0  H  O  P  r  σ  hs  Q  h
    obtain ⟨l, p, rfl, ha⟩ := iv_or hc
    have q := ihOrT_es (p := p) hx ha hs h
    exact fun pins s I => q _ pins s I
theorem sT_not {a : IE} (ihT_a : SndT c n G a) : SndT c n G (.not a) := by
    intro T W sc X  e  hx  hc  Mc  H0  H  O  P  r  σ  hs  Q  h
    obtain ⟨l, p, rfl, ha⟩ := iv_not hc
    refine PT.wt (pt_not pt_wt) ?_
    have h : Sat ((evE T G a r).bind fun x => (toB x).bind fun b => R.ok (D.bl (!b))) (fun x => Sat (toB x) (fun k => ∀ H', Same H H' → Q k H') (exE c.xc X.K W σ H)) (exE c.xc X.K W σ H) := h
    exact ihT_a hx ha hs (Sat.mono (Sat.bind h) (fun x _ h1 => Sat.mono (Sat.bind h1) (fun k _ h2 => h2) fun z hz => hz) fun z hz => hz)
theorem sT_cmp {o : CmpOp} {a : IE} {b : IE} (ihE_a : SndE c n G a) (ihE_b : SndE c n G b) : SndT c n G (.cmp o a b) := by
    intro T W sc X  e  hx  hc  Mc  H0  H  O  P  r  σ  hs  Q  h
    obtain ⟨l, rr, p, rfl, hm, ha, hb⟩ := iv_cmp hc
    refine PT.wt (pt_cmpR (op_cmp hx.hu) pe_we pe_we hm) ?_
    refine two (fra := frE c a) (frb := frE c b) (ihE_a hx ha hs) (fun s => ihE_b hx hb (hs.grow s)) (hs.trk _) (hs.trk _) h fun x y v u H2 s2 r1 r2 hh => ?_
    obtain ⟨z, ez, hz⟩ := Sat.val (Sat.bind hh) fun z => cmpD_ex
    exact ⟨x, y, z, r1.free, r2.free, ez, z, rfl, (show ∀ H', Same H H' → Q z H' from hz) H2 s2⟩
theorem sT_cmp2 {o : CmpOp} {q : CmpOp} {a : IE} {b : IE} {d : IE} (ihE_a : SndE c n G a) (ihE_b : SndE c n G b) (ihE_d : SndE c n G d) : SndT c n G (.cmp2 o q a b d) := by
    intro T W sc X  e  hx  hc  Mc  H0  H  O  P  r  σ  hs  Q  h
    obtain ⟨l, rr, r2, p, rfl, hm, ha, hb, hd⟩ := iv_cmp2 hc
    refine PT.wt (pt_chain (op_cmp hx.hu) (op_cmp hx.hu) pe_we pe_we pe_we hm) ?_
    refine two (fra := frE c a) (frb := frE c b) (ihE_a hx ha hs) (fun s => ihE_b hx hb (hs.grow s)) (hs.trk _) (hs.trk _) h fun x y v u H2 s2 r1 r2 hh => ?_
    obtain ⟨z, ez, hz⟩ := Sat.val (Sat.bind hh) fun z => cmpD_ex
    refine ⟨x, y, z, r1.free, r2.free, ez, z, rfl, ?_⟩
    cases z with
    | false => exact ite_ff ⟨false, rfl, (show ∀ H', Same H H' → Q false H' from hz) H2 s2⟩
    | true =>
      rw [if_pos rfl] at hz ⊢
      refine ihE_d hx hd (hs.grow s2) (Sat.mono (Sat.bind hz) (fun w _ h3 u3 H3 s3 r3 => ?_) fun z hz => exE.same s2 hz)
      obtain ⟨z4, ez4, hz4⟩ := Sat.val (Sat.bind h3) fun z => cmpD_ex
      exact ⟨y, w, z4, r2.free.same s3, (r3.repT ((hs.trk _).same s2)).free, ez4, z4, rfl, (show ∀ H', Same H H' → Q z4 H' from hz4) H3 (s2.trans s3)⟩
theorem sT_cmp3 {o : CmpOp} {q : CmpOp} {q3 : CmpOp} {a : IE} {b : IE} {d : IE} {f : IE} (ihE_a : SndE c n G a) (ihE_b : SndE c n G b) (ihE_d : SndE c n G d) (ihE_f : SndE c n G f) : SndT c n G (.cmp3 o q q3 a b d f) := by
    intro T W sc X  e  hx  hc  Mc  H0  H  O  P  r  σ  hs  Q  h
    obtain ⟨l, rr, r2, rr3, p, rfl, hm, ha, hb, hd, hf⟩ := iv_cmp3 hc
    refine PT.wt (pt_chain3 (op_cmp hx.hu) (op_cmp hx.hu) (op_cmp hx.hu) pe_we pe_we pe_we pe_we hm) ?_
    refine two (fra := frE c a) (frb := frE c b) (ihE_a hx ha hs) (fun s => ihE_b hx hb (hs.grow s)) (hs.trk _) (hs.trk _) h fun x y v u H2 s2 r1 r2 hh => ?_
    obtain ⟨z, ez, hz⟩ := Sat.val (Sat.bind hh) fun z => cmpD_ex
    refine ⟨x, y, z, r1.free, r2.free, ez, z, rfl, ?_⟩
    cases z with
    | false => exact ite_ff ⟨false, rfl, (show ∀ H', Same H H' → Q false H' from hz) H2 s2⟩
    | true =>
      rw [if_pos rfl] at hz ⊢
      refine ihE_d hx hd (hs.grow s2) (Sat.mono (Sat.bind hz) (fun w _ h3 u3 H3 s3 r3 => ?_) fun z hz => exE.same s2 hz)
      obtain ⟨z4, ez4, hz4⟩ := Sat.val (Sat.bind h3) fun z => cmpD_ex
      refine ⟨y, w, z4, r2.free.same s3, (r3.repT ((hs.trk _).same s2)).free, ez4, z4, rfl, ?_⟩
      cases z4 with
      | false => exact ite_ff ⟨false, rfl, (show ∀ H', Same H H' → Q false H' from hz4) H3 (s2.trans s3)⟩
      | true =>
        rw [if_pos rfl] at hz4 ⊢
        refine ihE_f hx hf (hs.grow (s2.trans s3)) (Sat.mono (Sat.bind hz4) (fun w5 _ h5 u5 H5 s5 r5 => ?_) fun z hz => exE.same (s2.trans s3) hz)
        obtain ⟨z6, ez6, hz6⟩ := Sat.val (Sat.bind h5) fun z => cmpD_ex
        exact ⟨w, w5, z6, (r3.repT ((hs.trk _).same s2)).free.same s5, (r5.repT ((hs.trk _).same (s2.trans s3))).free, ez6, z6, rfl, (show ∀ H', Same H H' → Q z6 H' from hz6) H5 ((s2.trans s3).trans s5)⟩
theorem sS_nil   : SndS c n G (.nil) := by
    intro T W sc X  l  hx  hc  Mc  H0  H  O  P  r  σ  hs  Q  h
    cases l with
    | cons _ _ => cases hc
    | nil => exact PA.wa pa_nil ((show ∀ vs H', Same H H' → RepL X.K (MM Mc P []) (MM Mc P []) H' [] vs → Q vs H' from h) [] H (Same.refl H) rfl)
theorem sS_cons {e : IE} {es : Es} (ihE_e : SndE c n G e) (ihS_es : SndS c n G es) : SndS c n G (.cons e es) := by
    intro T W sc X  l  hx  hc  Mc  H0  H  O  P  r  σ  hs  Q  h
    cases l with
    | nil => cases hc
    | cons a l =>
      have hc : (ckE c X.N sc e a && ckS c X.N sc es l) = true := hc
      rw [Bool.and_eq_true] at hc
      have ne : ∀ x p, a ≠ .Starred x p := fun x p q => by subst q; rw [ckE_star] at hc; cases hc.1
      refine PA.wa (pa_cons pe_we pa_wa (star_of ne)) ?_
      have h : Sat ((evE T G e r).bind fun x => (evEs T G es r).bind fun xs => R.ok (x :: xs)) (fun ds => ∀ vs H', Same H H' → RepL X.K (MM Mc P (etE e ++ etS es)) (MM Mc P (eiE e ++ eiS es)) H' ds vs → Q vs H') (exE c.xc X.K W σ H) := h
      refine ihE_e hx hc.1 hs (Sat.mono (Sat.bind h) (fun x _ h1 v H1 s1 r1 => ?_) fun z hz => hz)
      refine ihS_es hx hc.2 (hs.grow s1) (Sat.mono (Sat.bind h1) (fun xs _ h2 vs H2 s2 rs => ?_) fun z hz => exE.same s1 hz)
      exact (show ∀ vs H', Same H H' → RepL X.K (MM Mc P (etE e ++ etS es)) (MM Mc P (eiE e ++ eiS es)) H' (x :: xs) vs → Q vs H' from h2) (v :: vs) H2 (s1.trans s2) ⟨v, vs, rfl, ((r1.repT (hs.trk _)).same s2).less MM.l MM.l, rs.less MM.r MM.r⟩
theorem sAnd_nil   : SndAnd c n G (.nil) := by
    intro T W sc X  l  p  hx  hc  Mc  H0  H  O  P  r  σ  hs  Q  h
    exact (show False from h).elim
theorem sAnd_one {e : IE} (ihE_e : SndE c n G e) : SndAnd c n G (.cons e .nil) := by
    intro T W sc X  l  p  hx  hc  Mc  H0  H  O  P  r  σ  hs  Q  h
    cases l with
    | nil => cases hc
    | cons a l =>
      have hc : (ckE c X.N sc e a && ckS c X.N sc .nil l) = true := hc
      rw [Bool.and_eq_true] at hc
      cases l with
      | cons _ _ => exact absurd hc.2 (by intro z; cases z)
      | nil =>
        refine PE.we (pe_one pe_we) ?_
        have h : Sat ((evE T G e r).bind fun x => (toB x).bind fun k => R.ok (D.bl k)) (okE X.K false (MM Mc P []) (MM Mc P []) H Q) (exE c.xc X.K W σ H) := h
        refine ihE_e hx hc.1 hs (Sat.mono (Sat.bind h) (fun x _ h1 v H1 s1 r1 => ?_) fun z hz => hz)
        obtain ⟨k, ek, hk⟩ := Sat.val (Sat.bind h1) fun z => toB_ex
        have e2 := toB_ok ek
        subst e2
        have hk : okE _ _ _ _ _ _ (D.bl k) := hk
        rw [(r1.repT (hs.trk _)).bl]
        exact hk _ H1 s1 rfl
theorem sAnd_cons {e : IE} {e2 : IE} {es : Es} (ihE_e : SndE c n G e) (ihAnd_conse2es : SndAnd c n G (.cons e2 es)) : SndAnd c n G (.cons e (.cons e2 es)) := by
    intro T W sc X  l  p  hx  hc  Mc  H0  H  O  P  r  σ  hs  Q  h
    cases l with
    | nil => cases hc
    | cons a l =>
      have hc : (ckE c X.N sc e a && ckS c X.N sc (.cons e2 es) l) = true := hc
      rw [Bool.and_eq_true] at hc
      cases l with
      | nil => exact absurd hc.2 (by intro z; cases z)
      | cons b l =>
        refine PE.we (pe_and pe_we pe_we) ?_
        have h : Sat ((evE T G e r).bind fun x => (toB x).bind fun k => if k = true then evAnd T G (.cons e2 es) r else R.ok (D.bl false)) (okE X.K false (MM Mc P []) (MM Mc P []) H Q) (exE c.xc X.K W σ H) := h
        refine ihE_e hx hc.1 hs (Sat.mono (Sat.bind h) (fun x _ h1 v H1 s1 r1 => ?_) fun z hz => hz)
        obtain ⟨k, ek, hk⟩ := Sat.val (Sat.bind h1) fun z => toB_ex
        have e3 := toB_ok ek
        subst e3
        refine ⟨k, (r1.repT (hs.trk _)).bl, ?_⟩
        cases k with
        | false =>
          have hk : okE _ _ _ _ _ _ (D.bl false) := hk
          exact hk _ H1 s1 rfl
        | true => exact ihAnd_conse2es hx hc.2 (hs.grow s1) (Sat.mono hk (fun d _ hd v H2 s2 rd => hd v H2 (s1.trans s2) rd) fun z hz => exE.same s1 hz)
theorem sOr_nil   : SndOr c n G (.nil) := by
    intro T W sc X  l  p  hx  hc  Mc  H0  H  O  P  r  σ  hs  Q  h
    exact (show False from h).elim
theorem sOr_one {e : IE} (ihE_e : SndE c n G e) : SndOr c n G (.cons e .nil) := by
    intro T W sc X  l  p  hx  hc  Mc  H0  H  O  P  r  σ  hs  Q  h
    cases l with
    | nil => cases hc
    | cons a l =>
      have hc : (ckE c X.N sc e a && ckS c X.N sc .nil l) = true := hc
      rw [Bool.and_eq_true] at hc
      cases l with
      | cons _ _ => exact absurd hc.2 (by intro z; cases z)
      | nil =>
        refine PE.we (pe_one pe_we) ?_
        have h : Sat ((evE T G e r).bind fun x => (toB x).bind fun k => R.ok (D.bl k)) (okE X.K false (MM Mc P []) (MM Mc P []) H Q) (exE c.xc X.K W σ H) := h
        refine ihE_e hx hc.1 hs (Sat.mono (Sat.bind h) (fun x _ h1 v H1 s1 r1 => ?_) fun z hz => hz)
        obtain ⟨k, ek, hk⟩ := Sat.val (Sat.bind h1) fun z => toB_ex
        have e2 := toB_ok ek
        subst e2
        have hk : okE _ _ _ _ _ _ (D.bl k) := hk
        rw [(r1.repT (hs.trk _)).bl]
        exact hk _ H1 s1 rfl
theorem sOr_cons {e : IE} {e2 : IE} {es : Es} (ihE_e : SndE c n G e) (ihOr_conse2es : SndOr c n G (.cons e2 es)) : SndOr c n G (.cons e (.cons e2 es)) := by
    intro T W sc X  l  p  hx  hc  Mc  H0  H  O  P  r  σ  hs  Q  h
    cases l with
    | nil => cases hc
    | cons a l =>
      have hc : (ckE c X.N sc e a && ckS c X.N sc (.cons e2 es) l) = true := hc
      rw [Bool.and_eq_true] at hc
      cases l with
      | nil => exact absurd hc.2 (by intro z; cases z)
      | cons b l =>
        refine PE.we (pe_or pe_we pe_we) ?_
        have h : Sat ((evE T G e r).bind fun x => (toB x).bind fun k => if k = true then R.ok (D.bl true) else evOr T G (.cons e2 es) r) (okE X.K false (MM Mc P []) (MM Mc P []) H Q) (exE c.xc X.K W σ H) := h
        refine ihE_e hx hc.1 hs (Sat.mono (Sat.bind h) (fun x _ h1 v H1 s1 r1 => ?_) fun z hz => hz)
        obtain ⟨k, ek, hk⟩ := Sat.val (Sat.bind h1) fun z => toB_ex
        have e3 := toB_ok ek
        subst e3
        refine ⟨k, (r1.repT (hs.trk _)).bl, ?_⟩
        cases k with
        | true =>
          have hk : okE _ _ _ _ _ _ (D.bl true) := hk
          exact hk _ H1 s1 rfl
        | false => exact ihOr_conse2es hx hc.2 (hs.grow s1) (Sat.mono hk (fun d _ hd v H2 s2 rd => hd v H2 (s1.trans s2) rd) fun z hz => exE.same s1 hz)
theorem sAndT_nil   : SndAndT c n G (.nil) := by
    intro T W sc X  l  p  hx  hc  Mc  H0  H  O  P  r  σ  hs  Q  h
    exact (show False from h).elim
theorem sAndT_one {e : IE} (ihT_e : SndT c n G e) : SndAndT c n G (.cons e .nil) := by
    intro T W sc X  l  p  hx  hc  Mc  H0  H  O  P  r  σ  hs  Q  h
    cases l with
    | nil => cases hc
    | cons a l =>
      have hc : (ckE c X.N sc e a && ckS c X.N sc .nil l) = true := hc
      rw [Bool.and_eq_true] at hc
      cases l with
      | cons _ _ => exact absurd hc.2 (by intro z; cases z)
      | nil =>
        refine PW.ww (pw_and1 pt_wt) ?_
        have h : Sat ((evE T G e r).bind fun x => (toB x).bind fun k => R.ok (D.bl k)) (fun x => Sat (toB x) (fun k => ∀ H', Same H H' → Q k H') (exE c.xc X.K W σ H)) (exE c.xc X.K W σ H) := h
        exact ihT_e hx hc.1 hs (Sat.mono (Sat.bind h) (fun x _ h1 => Sat.mono (Sat.bind h1) (fun k _ h2 => h2) fun z hz => hz) fun z hz => hz)
theorem sAndT_cons {e : IE} {e2 : IE} {es : Es} (ihT_e : SndT c n G e) (ihAndT_conse2es : SndAndT c n G (.cons e2 es)) : SndAndT c n G (.cons e (.cons e2 es)) := by
    intro T W sc X  l  p  hx  hc  Mc  H0  H  O  P  r  σ  hs  Q  h
    cases l with
    | nil => cases hc
    | cons a l =>
      have hc : (ckE c X.N sc e a && ckS c X.N sc (.cons e2 es) l) = true := hc
      rw [Bool.and_eq_true] at hc
      cases l with
      | nil => exact absurd hc.2 (by intro z; cases z)
      | cons b l =>
        refine PW.ww (pw_and pt_wt pw_ww) ?_
        have h : Sat ((evE T G e r).bind fun x => (toB x).bind fun k => if k = true then evAnd T G (.cons e2 es) r else R.ok (D.bl false)) (fun x => Sat (toB x) (fun k => ∀ H', Same H H' → Q k H') (exE c.xc X.K W σ H)) (exE c.xc X.K W σ H) := h
        refine ihT_e hx hc.1 hs (Sat.mono (Sat.bind h) (fun x _ h1 => Sat.mono (Sat.bind h1) (fun k _ h2 H1 s1 => ?_) fun z hz => hz) fun z hz => hz)
        cases k with
        | false => exact (show ∀ H', Same H H' → Q false H' from h2) H1 s1
        | true => exact ihAndT_conse2es hx hc.2 (hs.grow s1) (Sat.mono h2 (fun d _ hd => Sat.mono hd (fun k _ hk H2 s2 => hk H2 (s1.trans s2)) fun z hz => exE.same s1 hz) fun z hz => exE.same s1 hz)
theorem sOrT_nil   : SndOrT c n G (.nil) := by
    intro T W sc X  l  p  hx  hc  Mc  H0  H  O  P  r  σ  hs  Q  h
    exact (show False from h).elim
theorem sOrT_one {e : IE} (ihT_e : SndT c n G e) : SndOrT c n G (.cons e .nil) := by
    intro T W sc X  l  p  hx  hc  Mc  H0  H  O  P  r  σ  hs  Q  h
    cases l with
    | nil => cases hc
    | cons a l =>
      have hc : (ckE c X.N sc e a && ckS c X.N sc .nil l) = true := hc
      rw [Bool.and_eq_true] at hc
      cases l with
      | cons _ _ => exact absurd hc.2 (by intro z; cases z)
      | nil =>
        refine PW.ww (pw_or1 pt_wt) ?_
        have h : Sat ((evE T G e r).bind fun x => (toB x).bind fun k => R.ok (D.bl k)) (fun x => Sat (toB x) (fun k => ∀ H', Same H H' → Q k H') (exE c.xc X.K W σ H)) (exE c.xc X.K W σ H) := h
        exact ihT_e hx hc.1 hs (Sat.mono (Sat.bind h) (fun x _ h1 => Sat.mono (Sat.bind h1) (fun k _ h2 => h2) fun z hz => hz) fun z hz => hz)
theorem sOrT_cons {e : IE} {e2 : IE} {es : Es} (ihT_e : SndT c n G e) (ihOrT_conse2es : SndOrT c n G (.cons e2 es)) : SndOrT c n G (.cons e (.cons e2 es)) := by
    intro T W sc X  l  p  hx  hc  Mc  H0  H  O  P  r  σ  hs  Q  h
    cases l with
    | nil => cases hc
    | cons a l =>
      have hc : (ckE c X.N sc e a && ckS c X.N sc (.cons e2 es) l) = true := hc
      rw [Bool.and_eq_true] at hc
      cases l with
      | nil => exact absurd hc.2 (by intro z; cases z)
      | cons b l =>
        refine PW.ww (pw_or pt_wt pw_ww) ?_
        have h : Sat ((evE T G e r).bind fun x => (toB x).bind fun k => if k = true then R.ok (D.bl true) else evOr T G (.cons e2 es) r) (fun x => Sat (toB x) (fun k => ∀ H', Same H H' → Q k H') (exE c.xc X.K W σ H)) (exE c.xc X.K W σ H) := h
        refine ihT_e hx hc.1 hs (Sat.mono (Sat.bind h) (fun x _ h1 => Sat.mono (Sat.bind h1) (fun k _ h2 H1 s1 => ?_) fun z hz => hz) fun z hz => hz)
        cases k with
        | true => exact (show ∀ H', Same H H' → Q true H' from h2) H1 s1
        | false => exact ihOrT_conse2es hx hc.2 (hs.grow s1) (Sat.mono h2 (fun d _ hd => Sat.mono hd (fun k _ hk H2 s2 => hk H2 (s1.trans s2)) fun z hz => exE.same s1 hz) fun z hz => exE.same s1 hz)
theorem sO_nil   : SndO c n G (.none) := by
    intro T W sc X  a  hx  hc  Mc  H0  H  O  P  r  σ  hs  Q  h
    cases a with
    | some _ => cases hc
    | none => exact (show ∀ H', Same H H' → Q none H' from h) H (Same.refl H)
theorem sO_cons {e : IE} (ihE_e : SndE c n G e) : SndO c n G (.some e) := by
    intro T W sc X  a  hx  hc  Mc  H0  H  O  P  r  σ  hs  Q  h
    cases a with
    | none => cases hc
    | some a =>
      have h : Sat ((evE T G e r).bind fun x => (intD x).bind fun i => R.ok (some i)) (fun x => ∀ H', Same H H' → Q x H') (exE c.xc X.K W σ H) := h
      refine ihE_e hx hc hs (Q := fun x H1 => ∃ i, x = .int i ∧ Q (some i) H1) (Sat.mono (Sat.bind h) (fun x _ h1 v H1 s1 r1 => ?_) fun z hz => hz)
      obtain ⟨k, ek, hk⟩ := Sat.val (Sat.bind h1) fun z => intD_ex
      have e2 := intD_ok ek
      subst e2
      exact ⟨k, (r1.repT (hs.trk _)).int, (show ∀ H', Same H H' → Q (some k) H' from hk) H1 s1⟩
end
end PL

namespace PL
open L2 PyProof.Rows PySem.Spec PySem
section
variable {c : Ck} {n : Nat} {G : Ga}
theorem sE_u0 {t : Bool} : SndE c n G (.u0 t) := by
  intro T W sc X e hx hc Mc H0 H O P r σ hs Q h
  obtain ⟨p, rfl⟩ := iv_u0 hc
  have h : okE X.K true (MM Mc P []) (MM Mc P []) H Q (if t = true then .dT [] [] else .dK [] []) := h
  cases t with
  | false => exact PE.we pe_dnewK fun q hq => h _ _ (same_new hq) ⟨q, [], rfl, hq, upd_same, rfl, rfl⟩
  | true => exact PE.we pe_dnewT fun q hq => h _ _ (same_new hq) ⟨q, [], rfl, hq, upd_same, rfl, rfl⟩
theorem u1D_ex {k : U1} {a z : D} (h : u1D k a = .ex z) : False := by
  unfold u1D at h
  split at h
  · exact lrgD_ex h
  · exact lrevD_ex h
  · cases h
  · split at h <;> cases h
  · cases h
theorem lrgD_inv {x y z : D} (ez : lrgD x y = .ok z) : ∃ i j, x = .int i ∧ y = .int j ∧ rngOk i j = true ∧ j - i ≤ 100000 ∧ z = .lst ((rangeI i (j - i).toNat).map .int) := by
  unfold lrgD at ez
  split at ez
  · split at ez
    · rename_i hk
      rw [Bool.and_eq_true, decide_eq_true_eq] at hk
      cases ez
      exact ⟨_, _, rfl, rfl, hk.1, hk.2, rfl⟩
    · cases ez
  · cases ez
theorem sE_lrg1 {a : IE} (ihE_a : SndE c n G a) : SndE c n G (.u1 .lrg1 a) := by
  intro T W sc X e hx hc Mc H0 H O P r σ hs Q h
  obtain ⟨p1, p2, q, p3, p, rfl, hb, hb2, ha, h0⟩ := iv_lrg1 hc
  obtain ⟨b1, b2, b3, b4⟩ := hx.blt hb
  obtain ⟨d1, d2, d3, d4⟩ := hx.blt hb2
  have ne : ∀ z p, q ≠ .Starred z p := fun z p e => by subst e; rw [ckE_star] at ha; cases ha
  have s1 := star_of (es := []) (env := X.env) ne
  refine PE.we (pe_listRg (hx.calm h0) b1 b2 (prg_1 d1 d2 pe_we s1)) ?_
  have h : Sat ((evE T G a r).bind fun x => u1D .lrg1 x) (okE X.K true (MM Mc P (etE (.u1 .lrg1 a))) (MM Mc P (eiE (.u1 .lrg1 a))) H Q) (exE c.xc X.K W σ H) := h
  refine ihE_a hx ha hs (Sat.mono (Sat.bind h) (fun x _ h1 v H1 s1 r1 => ?_) fun z hz => hz)
  obtain ⟨z, ez, hz⟩ := Sat.val h1 fun z => u1D_ex
  obtain ⟨i, j, ei, rfl, hr, hl, rfl⟩ := lrgD_inv (show lrgD (.int 0) x = .ok z from ez)
  cases ei
  have hr' : -(2 ^ 62) ≤ (0 : Int) ∧ (0 : Int) < 2 ^ 62 ∧ -(2 ^ 62) ≤ j ∧ j < 2 ^ 62 := by
    unfold rngOk at hr
    simpa only [Bool.and_eq_true, decide_eq_true_eq] using hr
  obtain ⟨o1, o2, o3, o4⟩ := hr'
  refine ⟨j, (r1.repT (hs.trk _)).int, ⟨o1, o2, o3, o4, by omega⟩, fun q hq => hz _ _ (s1.trans (same_new hq)) (FrT.lst s1 hq ?_)⟩
  have e : rgV 0 j = (rangeI 0 (j - 0).toNat).map V.int := by unfold rgV rangeI; rw [List.map_map]; rfl
  rw [e]
  exact Reps.of_ints
theorem sE_rvs {a : IE} (ihE_a : SndE c n G a) : SndE c n G (.u1 .rvs a) := by
  intro T W sc X e hx hc Mc H0 H O P r σ hs Q h
  obtain ⟨q, k, p1, p2, p3, pos, rfl, ha⟩ := iv_rvs hc
  refine PE.we (pe_revL pe_we) ?_
  have h : Sat ((evE T G a r).bind fun x => u1D .rvs x) (okE X.K true (MM Mc P (etE (.u1 .rvs a))) (MM Mc P (eiE a)) H Q) (exE c.xc X.K W σ H) := h
  refine ihE_a hx ha hs (Sat.mono (Sat.bind h) (fun x _ h1 v H1 s1 r1 => ?_) fun z hz => hz)
  obtain ⟨z, ez, hz⟩ := Sat.val h1 fun z => u1D_ex
  obtain ⟨ds, rfl, rfl⟩ : ∃ ds, x = .lst ds ∧ z = .lst ds.reverse := by
    have ez : lrevD x = .ok z := ez
    unfold lrevD at ez
    split at ez
    · cases ez; exact ⟨_, rfl, rfl⟩
    · cases ez
  obtain ⟨p, vs, rfl, hl, rs⟩ := r1.repT (hs.trk _)
  exact ⟨p, vs, rfl, hl.sq, fun q hq => hz _ _ (s1.trans (same_new hq)) (FrT.lst s1 hq (Reps.reverse rs))⟩
theorem sE_dcp {a : IE} (ihE_a : SndE c n G a) : SndE c n G (.u1 .dcp a) := by
  intro T W sc X e hx hc Mc H0 H O P r σ hs Q h
  obtain ⟨p1, q, p, rfl, hb, ha⟩ := iv_dcp hc
  obtain ⟨b1, b2, b3, b4⟩ := hx.blt hb
  have ne : ∀ z p, q ≠ .Starred z p := fun z p e => by subst e; rw [ckE_star] at ha; cases ha
  have s1 := star_of (es := []) (env := X.env) ne
  refine PE.we (pe_callTy call_dictD b1 b2 (by decide +kernel) (pa_cons pe_we pa_nil s1) b4 b3 s1 rfl) ?_
  have h : Sat ((evE T G a r).bind fun x => u1D .dcp x) (okE X.K true (MM Mc P (etE (.u1 .dcp a))) (MM Mc P (eiE a)) H Q) (exE c.xc X.K W σ H) := h
  refine ihE_a hx ha hs (Sat.mono (Sat.bind h) (fun x _ h1 v H1 s1 r1 => ?_) fun z hz => hz)
  obtain ⟨z, ez, hz⟩ := Sat.val h1 fun z => u1D_ex
  obtain ⟨ks, ds, rfl, rfl⟩ : ∃ ks ds, x = .dK ks ds ∧ z = .dK ks ds := by
    cases x <;> first | (cases ez; done) | (cases ez; exact ⟨_, _, rfl, rfl⟩)
  obtain ⟨p, vs, rfl, hl, hn, rs⟩ := r1.repT (hs.trk _)
  exact ⟨p, _, rfl, hl.2, fun q hq => hz _ _ (s1.trans (same_new hq)) ⟨q, vs, rfl, s1.free hq, upd_same, hn, Reps.same (same_new hq) (Reps.gr (Gr.more fun a x => x.imp id fun e => by rw [e]; exact hq) _ _ rs)⟩⟩
theorem sE_strI {a : IE} (ihE_a : SndE c n G a) : SndE c n G (.u1 .strI a) := by
  intro T W sc X e hx hc Mc H0 H O P r σ hs Q h
  obtain ⟨p1, q, p, rfl, hb, ha⟩ := iv_strI hc
  obtain ⟨b1, b2, b3, b4⟩ := hx.blt hb
  have ne : ∀ z p, q ≠ .Starred z p := fun z p e => by subst e; rw [ckE_star] at ha; cases ha
  have s1 := star_of (es := []) (env := X.env) ne
  refine PE.we (pe_callTy call_str_int b1 b2 (by decide +kernel) (pa_cons pe_we pa_nil s1) b4 b3 s1 rfl) ?_
  have h : Sat ((evE T G a r).bind fun x => u1D .strI x) (okE X.K false (MM Mc P (etE (.u1 .strI a))) (MM Mc P (eiE a)) H Q) (exE c.xc X.K W σ H) := h
  refine ihE_a hx ha hs (Sat.mono (Sat.bind h) (fun x _ h1 v H1 s1 r1 => ?_) fun z hz => hz)
  obtain ⟨z, ez, hz⟩ := Sat.val h1 fun z => u1D_ex
  obtain ⟨i, rfl, hl, rfl⟩ : ∃ i, x = .int i ∧ i.natAbs.log2 < 1920 ∧ z = .str (toString i) := by
    cases x <;> first | (cases ez; done) | skip
    rename_i i _
    have ez : (if i.natAbs.log2 < 1920 then R.ok (D.str (toString i)) else .no) = .ok z := ez
    split at ez
    · rename_i hl
      cases ez; exact ⟨_, rfl, hl, rfl⟩
    · cases ez
  exact ⟨i, by rw [(r1.repT (hs.trk _)).int], hl, hz _ H1 s1 rfl⟩
theorem sE_u1 {k : U1} {a : IE} (ih : SndE c n G a) : SndE c n G (.u1 k a) := by
  cases k with
  | lrg1 => exact sE_lrg1 ih
  | rvs => exact sE_rvs ih
  | dcp => exact sE_dcp ih
  | strI => exact sE_strI ih
end
end PL

namespace PL
open L2 PyProof.Rows PySem.Spec PySem
section
variable {c : Ck} {n : Nat} {G : Ga}
theorem dctD_ex {a z : D} (h : dctD a = .ex z) : False := by
  unfold dctD at h
  split at h <;> cases h
theorem dctD_ok {a z : D} (h : dctD a = .ok z) : z = a ∧ ((∃ ks ds, a = .dK ks ds) ∨ ∃ ks ds, a = .dT ks ds) := by
  unfold dctD at h
  split at h
  · rename_i e
    cases h
    refine ⟨rfl, ?_⟩
    cases a <;> first | exact .inl ⟨_, _, rfl⟩ | exact .inr ⟨_, _, rfl⟩ | cases e
  · cases h
theorem dgetD_ex {a b d z : D} (h : dgetD a b d = .ex z) : False := by
  unfold dgetD at h
  split at h
  · split at h <;> cases h
  · split at h <;> cases h
  · cases h
/-- what a dict's get comes to -/
theorem dget_rep {K : PySem.W.Frag} {Mt Mi : AS} {H : Hp} {a k d z : D} {x y : V} (hz : dgetD a k d = .ok z) (ra : RepT K Mt Mi H a x) (rk : RepT K F0 F0 H k y) :
    ∃ p o, x = .ref p ∧ DGet H p y o ∧ ((o = none ∧ z = d) ∨ ∃ v, o = some v ∧ Rep K Mi H z v) := by
  cases a <;> first | cases hz | skip
  · rename_i ks ds
    obtain ⟨p, vs, rfl, hl, hn, rs⟩ := ra
    have hz : (match kyOf k with | some k => R.ok ((lookK ks ds k).getD d) | none => .no) = .ok z := hz
    cases e : kyOf k with
    | none => rw [e] at hz; cases hz
    | some k' =>
      rw [e] at hz
      cases hz
      have ey : y = kV k' := kyOf_v e rk.rep
      obtain ⟨q1, q2⟩ := val_rep (K := K) (M := Mi) (H := H) k' hn rs
      cases q : lookK ks ds k' with
      | none => exact ⟨p, _, rfl, .inl ⟨_, _, hl.2, ey, rfl⟩, .inl ⟨q2 q, rfl⟩⟩
      | some d' =>
        obtain ⟨v, e1, e2⟩ := q1 _ q
        exact ⟨p, _, rfl, .inl ⟨_, _, hl.2, ey, rfl⟩, .inr ⟨v, e1, e2⟩⟩
  · rename_i ks ds
    cases k <;> first | cases hz | skip
    rename_i es
    obtain ⟨p, vs, rfl, hl, hn, rs⟩ := ra
    have hz : (match kysOf es with | some k => R.ok ((lookK ks ds k).getD d) | none => .no) = .ok z := hz
    cases e : kysOf es with
    | none => rw [e] at hz; cases hz
    | some k' =>
      rw [e] at hz
      cases hz
      obtain ⟨b, us, rfl, hb, ru⟩ := rk
      have ey := kysOf_v e ru
      subst ey
      obtain ⟨q1, q2⟩ := val_rep (K := K) (M := Mi) (H := H) k' hn rs
      cases q : lookK ks ds k' with
      | none => exact ⟨p, _, rfl, .inr ⟨_, _, b, hl.2, rfl, hb, rfl⟩, .inl ⟨q2 q, rfl⟩⟩
      | some d' =>
        obtain ⟨v, e1, e2⟩ := q1 _ q
        exact ⟨p, _, rfl, .inr ⟨_, _, b, hl.2, rfl, hb, rfl⟩, .inr ⟨v, e1, e2⟩⟩
theorem dct_isD {K : PySem.W.Frag} {Mt Mi : AS} {H : Hp} {a : D} {x : V} (h : (∃ ks ds, a = .dK ks ds) ∨ ∃ ks ds, a = .dT ks ds) (r : RepT K Mt Mi H a x) : ∃ p, x = .ref p ∧ IsD H p := by
  rcases h with ⟨ks, ds, rfl⟩ | ⟨ks, ds, rfl⟩
  · obtain ⟨p, vs, e, hl, _⟩ := r
    exact ⟨p, e, .inl ⟨_, hl.2⟩⟩
  · obtain ⟨p, vs, e, hl, _⟩ := r
    exact ⟨p, e, .inr ⟨_, hl.2⟩⟩
theorem sE_dget {a k d : IE} (ihE_a : SndE c n G a) (ihE_k : SndE c n G k) (ihE_d : SndE c n G d) : SndE c n G (.dget a k d) := by
  intro T W sc X e hx hc Mc H0 H O P r σ hs Q h
  obtain ⟨o, ap, q, q2, p, rfl, hl, hn, ha, hk, hd⟩ := iv_dget hc
  cases o <;> first | exact Bool.noConfusion hn | skip
  have ne : ∀ z p, q ≠ .Starred z p := fun z p e => by subst e; rw [ckE_star] at hk; cases hk
  have ne2 : ∀ z p, q2 ≠ .Starred z p := fun z p e => by subst e; rw [ckE_star] at hd; cases hd
  have s2 := star_of (es := []) (env := X.env) ne2
  have s1 := star_of (es := [q2]) (env := X.env) ne
  refine PE.we (pe_dget2 (by have := hx.hu; omega) pe_we pe_we pe_we ⟨rfl, by rw [s1, s2]; rfl, hl, by rw [s1, s2]; rfl⟩) ?_
  have h : Sat ((evE T G a r).bind fun x => (dctD x).bind fun x => (evE T G k r).bind fun y => (evE T G d r).bind fun z => dgetD x y z) (okE X.K false (MM Mc P (eiE a ++ etE d)) (MM Mc P (eiE a ++ eiE d)) H Q) (exE c.xc X.K W σ H) := h
  refine ihE_a hx ha hs (Sat.mono (Sat.bind h) (fun x _ h1 v H1 s1 r1 => ?_) fun z hz => hz)
  obtain ⟨x', ex', h4⟩ := Sat.val (Sat.bind h1) fun z => dctD_ex
  obtain ⟨rfl, hdd⟩ := dctD_ok ex'
  have rr := r1.repT (hs.trk _)
  obtain ⟨pa, rfl, hia⟩ := dct_isD hdd rr
  refine ⟨pa, rfl, hia, ?_⟩
  refine ihE_k hx hk (hs.grow s1) (Sat.mono (Sat.bind h4) (fun y _ h2 u H2 s2 r2 => ?_) fun z hz => exE.same s1 hz)
  refine ihE_d hx hd ((hs.grow s1).grow s2) (Sat.mono (Sat.bind h2) (fun w _ h3 t H3 s3 r3 => ?_) fun z hz => exE.same (s1.trans s2) hz)
  obtain ⟨z, ez, hz⟩ := Sat.val h3 fun z => dgetD_ex
  have r2' := ((r2.repT ((hs.trk _).same s1)).same s3).free
  have r1' := (rr.same s2).same s3
  have r3' := r3.repT ((hs.trk _).same (s1.trans s2))
  obtain ⟨p2, ov, e2, hg, hh⟩ := dget_rep ez r1' r2'
  cases e2
  refine ⟨ov, hg, hz _ H3 ((s1.trans s2).trans s3) ?_⟩
  rcases hh with ⟨rfl, rfl⟩ | ⟨v, rfl, hv⟩
  · exact r3'.less MM.r MM.r
  · exact (RepT.of hv).less MM.l MM.l
end
end PL

namespace PL
open L2 PyProof.Rows PySem.Spec PySem
theorem exIsD_ex {T : List (Str × D)} {d z : D} {cs : List Str} (h : exIsD T d cs = .ex z) : False := by
  unfold exIsD at h
  split at h
  · split at h <;> cases h
  · split at h <;> cases h
  · cases h
theorem exAtD_ex {T : List (Str × D)} {d z : D} {f : Str} (h : exAtD T d f = .ex z) : False := by
  unfold exAtD at h
  split at h
  · split at h <;> cases h
  · cases h
/-- what a class's name comes to -/
def clsV (K : PySem.W.Frag) (y : Str) : V := if y = "ValueError" then .ty "ValueError" else .ref (He.ga K y)
def clsU (K : PySem.W.Frag) (y : Str) : Value := if y = "ValueError" then .type "ValueError" else .ref (He.ga K y)
theorem clsV_rel {K : PySem.W.Frag} {y : Str} {u : Value} (h : RelV (clsV K y) u) : u = clsU K y := by
  unfold clsV at h
  unfold clsU
  split at h
  · rename_i e; rw [if_pos e]; exact h
  · rename_i e; rw [if_neg e]; exact h
theorem clsV_to {K : PySem.W.Frag} {y : Str} : RelV (clsV K y) (clsU K y) := by
  unfold clsV clsU
  split
  · exact rfl
  · exact rfl
theorem clsU_all {K : PySem.W.Frag} : ∀ {ys : List Str} {its : List Value}, Vals (ys.map (clsV K)) its → its = ys.map (clsU K)
  | [], _, h => by cases h; rfl
  | y :: ys, _, h => by
    cases h with
    | cons a b => rw [clsV_rel a, clsU_all b]; rfl
theorem boot_VE : bootBuiltins ("ValueError" : Str) = some (.type "ValueError") := PyProof.Rows.Boot.«ValueError»
section
variable {c : Ck} {n : Nat} {G : Ga} {T : List (Str × PL.D)} {W : WX} {sc : Scope} {X : Cx}
theorem clsN_ok (hx : SX c T n G W sc X) {y : Str} (h : clsN c sc y = true) : Gl X y ∧ (y == ("__debug__" : Str)) = false ∧ ((∃ f, (y, f) ∈ c.xc) ∨ (y = "ValueError" ∧ X.mg y = none)) := by
  unfold clsN at h
  simp only [Bool.and_eq_true, decide_eq_true_eq, Bool.or_eq_true, List.any_eq_true] at h
  obtain ⟨h1, h2, h3, h4⟩ := h
  refine ⟨hx.gl h1, (nmB_ok h2).1, ?_⟩
  rcases h4 with ⟨⟨z, f⟩, h5, h6⟩ | ⟨h5, h6⟩
  · have h6 : z = y := h6
    subst h6
    exact .inl ⟨f, h5⟩
  · exact .inr ⟨h5, hx.free _ h6⟩
/-- a class by its name -/
theorem pe_cls (hx : SX c T n G W sc X) {y : Str} {p : Pos} (h : clsN c sc y = true) : PE X (.Name y p) (tC (clsV X.K y)) := by
  obtain ⟨g, db, h1 | h1⟩ := clsN_ok hx h
  · obtain ⟨f, hf⟩ := h1
    have q := hx.xc _ _ hf
    have e : clsV X.K y = .ref (He.ga X.K y) := if_neg q.nv
    rw [e]
    exact pe_glob g q.mg rfl db
  · obtain ⟨rfl, hm⟩ := h1
    exact pe_bltn (v := .ty "ValueError") g hm boot_VE rfl (by decide) db
theorem cls_kit (hx : SX c T n G W sc X) {x y : Str} {f : Option Str} (hxf : (x, f) ∈ c.xc) (h : clsN c sc y = true) : PySem.W.kitOne X.K (.ref (He.ga X.K x)) (clsU X.K y) = some (isSub x y) := by
  obtain ⟨g, db, h1 | h1⟩ := clsN_ok hx h
  · obtain ⟨f', hf'⟩ := h1
    have e : clsU X.K y = .ref (He.ga X.K y) := if_neg (hx.xc _ _ hf').nv
    rw [e]
    exact (hx.xcm _ _ _ _ hxf hf').2
  · obtain ⟨rfl, hm⟩ := h1
    have e : clsU X.K "ValueError" = .type "ValueError" := if_pos rfl
    rw [e, (hx.xc _ _ hxf).ktV]
    unfold isSub
    simp
/-- several classes -/
theorem pa_clss (hx : SX c T n G W sc X) : ∀ {ys : List Str} {l : List Expr}, clsNs c sc ys l = true → ∀ {σ : L2.St} {H : Hp} {Q : List V → Hp → Prop}, Q (ys.map (clsV X.K)) H → ∃ t, PA X l t ∧ t σ H Q
  | [], [], _, σ, H, Q, q => ⟨tNil, pa_nil, q⟩
  | [], _ :: _, h, _, _, _, _ => Bool.noConfusion h
  | y :: ys, [], h, _, _, _, _ => Bool.noConfusion h
  | y :: ys, e :: l, h, σ, H, Q, q => by
    cases e <;> first | exact Bool.noConfusion h | skip
    rename_i x p
    have h : (decide (x = y) && (clsN c sc x && clsNs c sc ys l)) = true := h
    (simp only [Bool.and_eq_true, decide_eq_true_eq] at h)
    obtain ⟨rfl, h1, h2⟩ := h
    obtain ⟨t, ht, hq⟩ := pa_clss hx h2 (σ := σ) (H := H) (Q := fun vs H1 => Q (clsV X.K x :: vs) H1) q
    exact ⟨_, pa_cons (pe_cls hx h1) ht rfl, hq⟩
theorem clss_len : ∀ {ys : List Str} {l : List Expr}, clsNs c sc ys l = true → l.length = ys.length
  | [], [], _ => rfl
  | [], _ :: _, h => Bool.noConfusion h
  | y :: ys, [], h => Bool.noConfusion h
  | y :: ys, e :: l, h => by
    cases e <;> first | exact Bool.noConfusion h | skip
    rename_i x p
    have h : (decide (x = y) && (clsN c sc x && clsNs c sc ys l)) = true := h
    (simp only [Bool.and_eq_true, decide_eq_true_eq] at h)
    rw [List.length_cons, List.length_cons, clss_len h.2.2]
theorem clss_kit (hx : SX c T n G W sc X) {x : Str} {f : Option Str} (hxf : (x, f) ∈ c.xc) : ∀ {ys : List Str} {l : List Expr}, clsNs c sc ys l = true → PySem.W.kitAny X.K (.ref (He.ga X.K x)) (ys.map (clsU X.K)) = some (ys.any fun y => isSub x y)
  | [], [], _ => rfl
  | [], _ :: _, h => Bool.noConfusion h
  | y :: ys, [], h => Bool.noConfusion h
  | y :: ys, e :: l, h => by
    cases e <;> first | exact Bool.noConfusion h | skip
    rename_i z p
    have h : (decide (z = y) && (clsN c sc z && clsNs c sc ys l)) = true := h
    (simp only [Bool.and_eq_true, decide_eq_true_eq] at h)
    obtain ⟨rfl, h1, h2⟩ := h
    have k1 := cls_kit hx hxf h1
    have k2 := clss_kit hx hxf h2
    show (match PySem.W.kitOne X.K (.ref (He.ga X.K x)) (clsU X.K z) with
      | some true => some true
      | some false => PySem.W.kitAny X.K (.ref (He.ga X.K x)) (ys.map (clsU X.K))
      | none => none) = some (isSub x z || ys.any fun y => isSub x y)
    rw [k1, k2]
    cases isSub x z <;> rfl
/-- the exception that is handled, as an instance -/
theorem inst_at {e : Addr} {oe : Obj} {d : Option Addr} {C : Addr} {pins : List (Addr × Obj)} {σ : L2.St} {H : Hp} {s : Shared} (I : Inv X pins σ H s) (hp : (e, oe) ∈ X.pn) (hz : Zc (.ref C) d oe) (hf : ∃ vs, oe.data = .fields vs)
    (hd : d = none ∨ ∃ dd fs, d = some dd ∧ Rd H dd (.xd fs)) : ∃ od, PySem.W.InstAt s.heap e oe C od ∧ (∀ dd fs, d = some dd → Rd H dd (.xd fs) → ∃ ob mA, od = some ob ∧ s.heap.Ns1 dd mA ∧ (∀ f, RelO (fs.lookup f) (mA f)) ∧ s.heap.get? dd = some ob) := by
  obtain ⟨hget, _⟩ := I.pin (e, oe) (List.mem_append_left _ hp)
  obtain ⟨vs, hv⟩ := hf
  have rdx : ∀ dd fs, Rd H dd (.xd fs) → ∃ mA, s.heap.Ns1 dd mA ∧ ∀ f, RelO (fs.lookup f) (mA f) := fun dd fs r => by
    rcases r with r | ⟨u, r⟩
    · exact (show ObjOk X.prog X.w H s.heap dd (.xd fs) from I.hok dd _ r)
    · obtain ⟨_, q⟩ := (show ObjOk X.prog X.w H s.heap dd (.frz u (.xd fs)) from I.hok dd _ r)
      exact q
  (obtain ⟨oc, od, oda, osl⟩ := oe)
  obtain ⟨h1, h2⟩ := hz
  dsimp only at h1 h2 hv
  subst h1 h2 hv
  rcases hd with rfl | ⟨dd, fs, rfl, r⟩
  · exact ⟨none, ⟨hget, rfl, rfl, trivial⟩, fun dd fs e => nomatch e⟩
  · obtain ⟨mA, hns, hr⟩ := rdx dd fs r
    obtain ⟨ob, ho, hl⟩ := lookIn_ns hns
    refine ⟨some ob, ⟨hget, rfl, rfl, ho⟩, fun dd' fs' e r' => ?_⟩
    cases e
    obtain ⟨mA', hns', hr'⟩ := rdx dd fs' r'
    exact ⟨ob, mA', rfl, hns', hr', ho⟩
def rIsX (X : Cx) (x : Str) (d : Option Addr) (e : Addr) : List V → Hp → VK → Prop := fun xs H Q => ∃ w, xs = [.ref e, w] ∧ (d = none ∨ ∃ dd fs, d = some dd ∧ Rd H dd (.xd fs)) ∧ ∃ b, ((∃ y, w = clsV X.K y ∧ PySem.W.kitOne X.K (.ref (He.ga X.K x)) (clsU X.K y) = some b) ∨
      ∃ (tp : Addr) (ys : List Str), w = .ref tp ∧ H tp = some (.tup (ys.map (clsV X.K))) ∧ PySem.W.kitAny X.K (.ref (He.ga X.K x)) (ys.map (clsU X.K)) = some b) ∧ Q (.bl b) H
/-- isinstance(e, T), e the exception that is handled -/
theorem call_isX (hx : SX c T n G W sc X) {e : Addr} {oe : Obj} {d : Option Addr} {x : Str} {f : Option Str} (hxf : (x, f) ∈ c.xc) (hp : (e, oe) ∈ X.pn) (hz : Zc (.ref (He.ga X.K x)) d oe) (hf : ∃ vs, oe.data = .fields vs) :
    CallR X (.builtin "isinstance") (rIsX X x d e) := by
  (intro pins s σ H xs us Q I r h)
  obtain ⟨w, rfl, hd, b, hw, q⟩ := h
  (obtain ⟨u1, u2, rfl, r1, r2⟩ := vals2 r)
  obtain rfl : u1 = Value.ref e := r1
  obtain ⟨od, J, _⟩ := inst_at I hp hz hf hd
  have K0 := hx.xc _ _ hxf
  obtain ⟨sp1, sp2⟩ := hx.spc (fun z => by rw [z] at hxf; cases hxf)
  have Z := PySem.W.kitx_exc (x := e) (ox := oe) (od := od) (K := X.K) (C := He.ga X.K x) (by
      obtain ⟨cd, hc, _⟩ := PySem.W.any_some K0.hd
      rw [hc]; rfl) K0.ga K0.gg K0.exB K0.ca sp1 sp2 K0.mro
  rcases hw with ⟨y, rfl, hk⟩ | ⟨tp, ys, rfl, htp, hk⟩
  · obtain rfl := clsV_rel r2
    exact PySem.W.kia_one Z I.kIn J hk (fun z => nomatch z) fun tk => ⟨.bl b, H, I.tok tk, rfl, q⟩
  · obtain rfl : u2 = Value.ref tp := r2
    obtain ⟨its, rv, ⟨⟨cls, dd, data, sl⟩, ho, hc, m, hdt⟩, _⟩ := I.tuple (a := tp) (.inl (.inl htp))
    simp only at hc hdt
    subst hc hdt
    have ei : its = ys.map (clsU X.K) := clsU_all rv
    subst ei
    exact PySem.W.kia_tup Z I.kIn J ho hk (fun z => nomatch z) fun tk => ⟨.bl b, H, I.tok tk, rfl, q⟩
theorem exV_slot {K : PySem.W.Frag} {Mt Mi : AS} {H : Hp} {x : Str} {a : Int} {ys : List D} {v : V} (h : RepT K Mt Mi H (.ex x (.int a :: ys)) v) : v = .ref a.toNat ∧ (ys = [] ∨ ∃ dd g y u, ys = [.int dd, .str g, y] ∧ flat y = true ∧ Rd H dd.toNat (.xd [(g, u)]) ∧ Rep K Mi H y u) := by
  obtain ⟨vs, r, q⟩ := h
  obtain ⟨v0, r0, rfl, _, r⟩ := r
  cases ys with
  | nil => exact ⟨q, .inl rfl⟩
  | cons y1 ys =>
  cases ys with
  | nil => cases y1 <;> exact q.elim
  | cons y2 ys =>
  cases ys with
  | nil => cases y1 <;> first | exact q.elim | (cases y2 <;> exact q.elim)
  | cons y3 ys =>
  cases ys with
  | cons y4 ys => cases y1 <;> first | exact q.elim | (cases y2 <;> exact q.elim)
  | nil =>
    cases y1 <;> first | exact q.elim | skip
    cases y2 <;> first | exact q.elim | skip
    obtain ⟨v1, r1, rfl, _, r⟩ := r
    obtain ⟨v2, r2, rfl, _, r⟩ := r
    obtain ⟨v3, r3, rfl, r33, r⟩ := r
    have r : r3 = [] := r
    subst r
    obtain ⟨q1, q2, q3, q4⟩ := q
    exact ⟨q1, .inr ⟨_, _, _, _, rfl, q2, q4, r33⟩⟩
/-- the handled exception in a slot -/
structure CurX (X : Cx) (T : List (Str × PL.D)) (c : Ck) (H : Hp) (v : V) (x1 : Str) (f : Option Str) (e : Addr) (oe : Obj) (d : Option Addr) : Prop where
  ref : v = .ref e
  mem : (x1, f) ∈ c.xc
  pn : (e, oe) ∈ X.pn
  zc : Zc (.ref (He.ga X.K x1)) d oe
  fl : ∃ vs, oe.data = .fields vs
theorem exIsD_inv {T : List (Str × PL.D)} {d z : PL.D} {cs : List Str} (ez : exIsD T d cs = .ok z) : ∃ x0 a ys x1 xs, d = .ex x0 (.int a :: ys) ∧ curE T = some (a, x1, xs) ∧ z = .bl (cs.any fun y => isSub x1 y) ∧ ((ys = [] ∧ xs = []) ∨ ∃ e r r', ys = .int e :: r ∧ xs = .int e :: r') := by
  unfold exIsD at ez
  split at ez
  · rename_i hcur
    split at ez
    · rename_i hab
      subst hab
      cases ez
      exact ⟨_, _, _, _, _, rfl, hcur, rfl, .inl ⟨rfl, rfl⟩⟩
    · cases ez
  · rename_i hcur
    split at ez
    · rename_i hab
      obtain ⟨rfl, rfl⟩ := hab
      cases ez
      exact ⟨_, _, _, _, _, rfl, hcur, rfl, .inr ⟨_, _, _, rfl, rfl⟩⟩
    · cases ez
  · cases ez
theorem exAtD_inv {T : List (Str × PL.D)} {d z : PL.D} {f : Str} (ez : exAtD T d f = .ok z) : ∃ x0 a e x1 r', d = .ex x0 [.int a, .int e, .str f, z] ∧ curE T = some (a, x1, .int e :: .str f :: r') := by
  unfold exAtD at ez
  split at ez
  · rename_i hcur
    split at ez
    · rename_i hab
      obtain ⟨rfl, rfl, rfl, rfl⟩ := hab
      cases ez
      exact ⟨_, _, _, _, _, rfl, hcur⟩
    · cases ez
  · cases ez
theorem sE_exIs {i : Nat} {cs : List Str} : SndE c n G (.exIs i cs) := by
  intro T W sc X e hx hc Mc H0 H O P r σ hs Q h
  obtain ⟨p1, x, p2, t, p, rfl, hb, hN, hv, hn, ht⟩ := iv_exIs hc
  obtain ⟨b1, b2, b3, b4⟩ := hx.blt hb
  have h : Sat ((r.at i).bind fun d => exIsD T d cs) (okE X.K false (MM Mc P []) (MM Mc P []) H Q) (exE c.xc X.K W σ H) := h
  obtain ⟨d, ed, h⟩ := Sat.val (Sat.bind h) fun z => En.at_ex
  obtain ⟨z, ez, hz⟩ := Sat.val h fun z => exIsD_ex
  obtain ⟨x0, a, ys, x1, xs, rfl, ecur, rfl, hyx⟩ := exIsD_inv ez
  obtain ⟨_, ea, oe, dd, f, rfl, hxf, hp, hzc, hfl, hdd⟩ := hx.cur _ _ _ ecur
  obtain ⟨v, hσ, rv⟩ := hs.var (En.at_ok ed)
  obtain ⟨ev, hys⟩ := exV_slot rv
  have ev : v = .ref ea := ev
  subst ev
  obtain ⟨n1, n2⟩ := nmB_ok hn
  have hvar : PE X (.Name x p2) (tVar i) := pe_var hN (hx.vis hv) n1 n2
  have hdr : ∀ {H' : Hp}, Same H H' → (dd = none ∨ ∃ dd' fs, dd = some dd' ∧ Rd H' dd' (.xd fs)) := fun {H'} s => by
    rcases hyx with ⟨rfl, rfl⟩ | ⟨e, r1, r2, rfl, rfl⟩
    · rcases hdd with ⟨_, q⟩ | ⟨_, _, _, _, q, _⟩
      · exact .inl q
      · cases q
    · rcases hdd with ⟨q, _⟩ | ⟨dd1, g, y, _, q, q2⟩
      · cases q
      · cases q
        rcases hys with q3 | ⟨dd3, g3, y3, u3, q3, q4, q5, q6⟩
        · cases q3
        · cases q3
          exact .inr ⟨_, _, q2, Same.rd s q5⟩
  have e0 : starEach [Expr.Name x p2, t] X.env = (false, eval (.Name x p2) X.env) :: starEach [t] X.env := rfl
  match cs, t, ht with
  | [y], .Name y' p3, ht =>
    have ht : (decide (y' = y) && clsN c sc y') = true := ht
    simp only [Bool.and_eq_true, decide_eq_true_eq] at ht
    obtain ⟨rfl, hy⟩ := ht
    refine PE.we (pe_callB (call_isX hx hxf hp hzc hfl) b1 b2 boot_isinstance (pa_cons hvar (pa_cons (pe_cls hx hy) pa_nil rfl) e0) b4 b3 e0 rfl) ?_
    refine ⟨.ref ea, hσ, _, rfl, hdr (Same.refl _), isSub x1 y', .inl ⟨y', rfl, cls_kit hx hxf hy⟩, hz _ H (Same.refl H) ?_⟩
    show V.bl _ = V.bl _
    simp
  | y :: y2 :: ys, .Tuple l k p3, ht =>
    have ht : (decide (ys.length ≤ 900) && clsNs c sc (y :: y2 :: ys) l) = true := ht
    rw [Bool.and_eq_true, decide_eq_true_eq] at ht
    obtain ⟨hlen, hl⟩ := ht
    have e2 := clss_kit hx hxf hl
    obtain ⟨ta, ha1, ha2⟩ := pa_clss hx hl (σ := σ) (H := H) (Q := fun vs H1 => vs.length ≤ sizeLine ∧ ∀ p, H1 p = none → rIsX X x1 dd ea [.ref ea, .ref p] (upd H1 p (.tup vs)) Q) ⟨by
      (rw [List.length_map, sizeLine_eq])
      simp only [List.length_cons]
      omega, fun q hq => ⟨_, rfl, hdr (same_new hq), _, .inr ⟨q, y :: y2 :: ys, rfl, upd_same, e2⟩, hz _ _ (same_new hq) rfl⟩⟩
    exact PE.we (pe_callB (call_isX hx hxf hp hzc hfl) b1 b2 boot_isinstance (pa_cons hvar (pa_cons (pe_tup ha1) pa_nil rfl) e0) b4 b3 e0 rfl) ⟨.ref ea, hσ, ha2⟩
theorem sE_exAt {i : Nat} {f : Str} : SndE c n G (.exAt i f) := by
  intro T W sc X e hx hc Mc H0 H O P r σ hs Q h
  obtain ⟨x, p2, p, rfl, hN, hv, hn⟩ := iv_exAt hc
  have h : Sat ((r.at i).bind fun d => exAtD T d f) (okE X.K false (MM Mc P []) (MM Mc P []) H Q) (exE c.xc X.K W σ H) := h
  obtain ⟨d, ed, h⟩ := Sat.val (Sat.bind h) fun z => En.at_ex
  obtain ⟨z, ez, hz⟩ := Sat.val h fun z => exAtD_ex
  obtain ⟨x0, a, e, x1, r1, rfl, ecur⟩ := exAtD_inv ez
  obtain ⟨_, ea, oe, dd, f1, rfl, hxf, hp, hzc, hfl, hdd⟩ := hx.cur _ _ _ ecur
  obtain ⟨v, hσ, rv⟩ := hs.var (En.at_ok ed)
  obtain ⟨ev, hys⟩ := exV_slot rv
  have ev : v = .ref ea := ev
  subst ev
  rcases hys with q3 | ⟨dd3, g3, y3, u3, q3, q4, q5, q6⟩
  · cases q3
  cases q3
  rcases hdd with ⟨q, _⟩ | ⟨dd1, g, y, q0, q, q2⟩
  · cases q
  cases q
  subst q0
  obtain ⟨n1, n2⟩ := nmB_ok hn
  have hvar : PE X (.Name x p2) (tVar i) := pe_var hN (hx.vis hv) n1 n2
  have K0 := hx.xc _ _ hxf
  refine fun pins s I => ?_
  refine attr_of rfl (thn (hvar.run pins s σ H (fun w H1 => w = .ref ea ∧ H1 = H) I ⟨_, hσ, rfl, rfl⟩) fun u s1 hh => ?_)
  obtain ⟨w, H1, I1, rx, rfl, rfl⟩ := hh
  obtain rfl : u = Value.ref ea := rx
  obtain ⟨od, J, hod⟩ := inst_at I1 hp hzc hfl (.inr ⟨_, _, q2, q5⟩)
  obtain ⟨ob, mA, rfl, hns, hr, hob⟩ := hod _ _ q2 q5
  obtain ⟨od2, ho, hl⟩ := lookIn_ns hns
  rw [hob] at ho
  cases ho
  obtain ⟨u, hu, ru⟩ := RelO.some_of (v := u3) (o := mA f) (by
    have q := hr f
    have e : List.lookup f [(f, u3)] = some u3 := by simp [List.lookup]
    rw [e] at q
    exact q)
  exact HandSPX.exc_get I1.kIn J K0.ga K0.gg K0.exB (PySem.W.findObj_own K0.hd (K0.fld f rfl).1 rfl (by rw [hl, hu])) (handed_of ru) ⟨u3, H1, I1.tok _, ru, hz _ _ (Same.refl _) (Res.of_rep (RepT.flatT q4 (RepT.of q6)))⟩
theorem cnt_paired {K : PySem.W.Frag} {y : D} (fy : flatD y = true) : ∀ {ds : List D} {its : List Value}, Vals (ds.map vOf) its → ds.all flatD = true → its.countP (eqU (vOf y)) = (ds.filter fun z => deq z y).length
  | [], _, h, _ => by cases h; rfl
  | d :: ds, _, h, f => by
    (rw [List.all_cons, Bool.and_eq_true] at f)
    cases h with
    | cons a b =>
      rw [List.countP_cons, cnt_paired (K := K) fy b f.2, eqU_of a (flatV_vOf d), eqV_vOf f.1 fy, List.filter_cons]
      cases deq d y <;> simp
theorem mt_countF {X : Cx} : MtR X "list.count" (fun x xs H Q => ∃ (p : Addr) (ds : List D) (y : D), x = .ref p ∧ xs = [vOf y] ∧ SqL X.K H p (ds.map vOf) ∧ flatD y = true ∧ ds.all flatD = true ∧ Q (.int ((ds.filter fun z => deq z y).length : Nat)) H) := by
  (intro pins s σ H x xs v us Q I rx rxs h)
  obtain ⟨p, ds, y, rfl, rfl, hs, fy, fds, q⟩ := h
  cases rx
  cases rxs with
  | cons ry rt =>
    rename_i uy ut
    cases rt
    obtain ⟨its, rv, ⟨⟨cls, dd, data, sl⟩, m, ho, hc, hdn, hd⟩, hlen⟩ := I.list hs
    simp only at hc hd
    subst hc hd
    have fys : (ds.map vOf).all L2.flatV = true := by
      rw [List.all_map, List.all_eq_true]
      intro z _
      exact flatV_vOf z
    refine call_meets PySem.F.slot_list_count ⟨_, ho, rfl⟩ PySem.F.entry_list_count (PySem.F.args_list_count_2 _ _) (SeqAt.list_countAt p its.toArray m dd sl uy (eqU (vOf y))) ⟨ho, fun u' hu' => mem_eqAt ry (flatV_vOf y) rv fys u' (by simpa using hu'), ?_⟩
    have e : its.toArray.toList.countP (eqU (vOf y)) = (ds.filter fun z => deq z y).length := cnt_paired (K := X.K) fy rv fds
    refine ⟨.int ((ds.filter fun z => deq z y).length : Nat), H, I.tok _, ⟨s.toks, ?_⟩, q⟩
    show Value.int ((its.toArray.toList.countP (eqU (vOf y)) : Nat) : Int) s.toks = _
    rw [e]
theorem u2D_ex {k : U2} {a b z : D} (h : u2D k a b = .ex z) : False := by
  unfold u2D at h
  split at h
  · split at h <;> cases h
  · split at h <;> cases h
  · split at h <;> cases h
  · split at h <;> cases h
  · cases h
theorem sE_cnt {a b : IE} (ihE_a : SndE c n G a) (ihE_b : SndE c n G b) : SndE c n G (.u2 .cnt a b) := by
  intro T W sc X e hx hc Mc H0 H O P r σ hs Q h
  obtain ⟨o, ap, q, p, rfl, hl, hn, ha, hb, hat⟩ := iv_cnt hc
  cases o <;> first | exact Bool.noConfusion hn | skip
  have ne : ∀ z p, q ≠ .Starred z p := fun z p e => by subst e; rw [ckE_star] at hb; cases hb
  have s1 := star_of (es := []) (env := X.env) ne
  refine PE.we (pe_bm PySem.F.plainAttrs_list PySem.F.slot_list_count PySem.F.type_list_count mt_countF pe_we (pa_cons pe_we pa_nil s1) rfl (by rw [s1]; rfl) hl s1 rfl) ?_
  have h : Sat ((evE T G a r).bind fun x => (evE T G b r).bind fun y => u2D .cnt x y) (okE X.K false (MM Mc P (etE (.u2 .cnt a b))) (MM Mc P (eiE (.u2 .cnt a b))) H Q) (exE c.xc X.K W σ H) := h
  cases er : evE T G a r with
  | no => rw [er] at h; exact h.elim
  | ex z =>
    rw [er] at h
    refine ihE_a hx ha hs ?_
    rw [er]
    exact h
  | ok x =>
  rw [er] at h
  have h : Sat ((evE T G b r).bind fun y => u2D .cnt x y) (okE X.K false (MM Mc P (etE (.u2 .cnt a b))) (MM Mc P (eiE (.u2 .cnt a b))) H Q) (exE c.xc X.K W σ H) := h
  cases eb : evE T G b r with
  | no => rw [eb] at h; exact h.elim
  | ex z =>
    exfalso
    cases b <;> first | (cases hat; done) | skip
    · exact En.at_ex (show En.at r _ = .ex z from eb)
    · cases (show R.ok _ = R.ex z from eb)
  | ok y =>
  rw [eb] at h
  obtain ⟨z, ez, hz⟩ := Sat.val (show Sat (u2D .cnt x y) _ _ from h) fun z => u2D_ex
  obtain ⟨ds, rfl, fy, fds, rfl⟩ : ∃ ds, x = .lst ds ∧ flatD y = true ∧ ds.all flatD = true ∧ z = .int ((ds.filter fun z => deq z y).length : Nat) := by
    cases x <;> first | (cases ez; done) | skip
    rename_i ds _
    have ez : (if (flatD y && ds.all flatD) = true then R.ok (D.int ((ds.filter fun z => deq z y).length : Nat)) else .no) = .ok z := ez
    split at ez
    · rename_i hf
      rw [Bool.and_eq_true] at hf
      cases ez
      exact ⟨_, rfl, hf.1, hf.2, rfl⟩
    · cases ez
  refine ihE_a hx ha hs ?_
  rw [er]
  intro v H1 s1' r1
  have rr := r1.repT (hs.trk _)
  obtain ⟨ad, vs, rfl, hl1, hr⟩ := id rr
  refine ⟨.inl ⟨rfl, vs, hl1.sq⟩, ?_⟩
  refine ihE_b hx hb (hs.grow s1') ?_
  rw [eb]
  intro u H2 s2 r2
  obtain ⟨ad2, vs2, e2, hl2, hr2⟩ := RepT.same s2 rr
  have eu := (r2.repT ((hs.trk _).same s1')).flatV fy
  have ev := Reps.flatV fds hr2
  subst eu ev
  exact ⟨ad2, _, _, e2, rfl, hl2.sq, fy, fds, hz _ H2 (s1'.trans s2) rfl⟩
theorem dlit_ok {K : PySem.W.Frag} {M : AS} {H : Hp} {x y z : D} {u : V} (ez : u2D .dlit x y = .ok z) (rx : Rep K M H x u) : ∃ k, u = kV k ∧ z = .dK [k] [y] ∧ kyOf x = some k := by
  have ez : (match kyOf x with | some k => R.ok (D.dK [k] [y]) | none => .no) = .ok z := ez
  cases e : kyOf x with
  | none => rw [e] at ez; cases ez
  | some k =>
    rw [e] at ez
    cases ez
    exact ⟨k, kyOf_v e rx, rfl, rfl⟩
theorem sE_dlit {a b : IE} (ihE_a : SndE c n G a) (ihE_b : SndE c n G b) : SndE c n G (.u2 .dlit a b) := by
  intro T W sc X e hx hc Mc H0 H O P r σ hs Q h
  obtain ⟨k, v, p, rfl, ha, hb⟩ := iv_dlit hc
  refine PE.we (pe_disp (pps_cons pe_we pe_we pps_nil) (by rfl) (by rfl) (fun z => by cases z) (by show (1 : Nat) ≤ 15; omega)) ?_
  have h : Sat ((evE T G a r).bind fun x => (evE T G b r).bind fun y => u2D .dlit x y) (okE X.K true (MM Mc P (etE (.u2 .dlit a b))) (MM Mc P (etE b ++ eiE b)) H Q) (exE c.xc X.K W σ H) := h
  intro D0 hD
  have g0 : Same H (upd H D0 (.dK [])) := same_new hD
  have hs0 := hs.more hD (o := .dK []) trivial upd_same g0
  refine ihE_a hx ha hs0 (Sat.mono (Sat.bind h) (fun x _ h1 u H1 s1 r1 => ?_) fun z hz => exE.same g0 hz)
  refine ihE_b hx hb (hs0.grow s1) (Sat.mono (Sat.bind h1) (fun y _ h2 w H2 s2 r2 => ?_) fun z hz => exE.same (g0.trans s1) hz)
  obtain ⟨z, ez, hz⟩ := Sat.val h2 fun z => u2D_ex
  obtain ⟨k', rfl, rfl, ek⟩ := dlit_ok (K := X.K) (M := F0) (H := H1) ez ((r1.repT (hs0.trk _)).free).rep
  have e2 : H2 D0 = some (.dK []) := s2 _ _ (s1 _ _ upd_same)
  refine ⟨e2, [(k', w)], rfl, by show (1 : Nat) ≤ 15; omega, ?_⟩
  have gs : Same H (upd H2 D0 (.dK (mergeK [] [(k', w)]))) := fun c o e => by
    rw [upd_ne (ne_of_none e hD)]
    exact s2 _ _ (s1 _ _ (g0 _ _ e))
  refine hz _ _ gs (show FrT X.K (MM Mc P (etE b ++ eiE b)) H (upd H2 D0 (.dK (mergeK [] [(k', w)]))) (.dK [k'] [y]) (.ref D0) from ⟨D0, [w], rfl, hD, upd_same, rfl, ?_⟩)
  have ry : Rep X.K (fun c => MM Mc P (etE b ++ eiE b) c ∨ c = D0) H2 y w := (RepT.less (Mt' := fun c => MM Mc P (etE b ++ eiE b) c ∨ c = D0) (Mi' := fun c => MM Mc P (etE b ++ eiE b) c ∨ c = D0) (fun c z => by
      rcases z with z | z
      · exact (MM.l c z).imp (fun q => .inl q) id
      · exact .inl (.inr z)) (fun c z => by
      rcases z with z | z
      · exact (MM.r c z).imp (fun q => .inl q) id
      · exact .inl (.inr z)) (r2.repT ((hs0.trk _).same s1))).rep
  have gw : Gr X.K (fun c => MM Mc P (etE b ++ eiE b) c ∨ c = D0) H2 (fun c => MM Mc P (etE b ++ eiE b) c ∨ c = D0) (upd H2 D0 (.dK (mergeK [] [(k', w)]))) := Gr.write (.inr rfl) e2 (fun _ z => nomatch z) fun _ _ z => nomatch z
  exact Reps.gr gw _ _ (Reps.one ry)
theorem sE_u2 {k : U2} {a b : IE} (iha : SndE c n G a) (ihb : SndE c n G b) : SndE c n G (.u2 k a b) := by
  cases k with
  | cnt => exact sE_cnt iha ihb
  | dlit => exact sE_dlit iha ihb
  | maxd => exact fun {T W sc X e} hx hc => (iv_u2no (k := .maxd) (fun z => by cases z) (fun z => by cases z) hc).elim
  | mind => exact fun {T W sc X e} hx hc => (iv_u2no (k := .mind) (fun z => by cases z) (fun z => by cases z) hc).elim
end
end PL

namespace PL
open L2 PyProof.Rows PySem.Spec PySem

theorem wipe_cong {σ σ2 : L2.St} : ∀ {vs : List Nat}, σ2.length = σ.length → (∀ j, j ∉ vs → σ2[j]? = σ[j]?) → L2.wipe σ2 vs = L2.wipe σ vs := fun {vs} hl h => by
  (refine List.ext_getElem? fun j => ?_)
  have key : ∀ (τ : L2.St) (vs : List Nat) (j : Nat), (L2.wipe τ vs)[j]? = if j ∈ vs then (if j < τ.length then some none else none) else τ[j]? := fun τ vs => by
    induction vs with
    | nil => intro j; rfl
    | cons v vs ih =>
      intro j
      show ((L2.wipe τ vs).set v none)[j]? = _
      by_cases hv : v = j
      · subst hv
        rw [if_pos (List.mem_cons_self ..)]
        by_cases hlt : v < τ.length
        · rw [List.getElem?_set_self (by rw [wipe_length]; exact hlt), if_pos hlt]
        · rw [List.getElem?_eq_none (by rw [List.length_set, wipe_length]; omega), if_neg hlt]
      · rw [List.getElem?_set_ne hv, ih j]
        by_cases hj : j ∈ vs
        · rw [if_pos hj, if_pos (List.mem_cons_of_mem _ hj)]
        · rw [if_neg hj, if_neg (by intro z; rcases List.mem_cons.mp z with e | e; exact hv e.symm; exact hj e)]
  rw [key, key, hl]
  by_cases hj : j ∈ vs
  · rw [if_pos hj, if_pos hj]
  · rw [if_neg hj, if_neg hj, h j hj]
theorem wipe_wipe (σ : L2.St) (vs : List Nat) : L2.wipe (L2.wipe σ vs) vs = L2.wipe σ vs := by
  (refine List.ext_getElem? fun j => ?_)
  have key : ∀ (τ : L2.St) (vs : List Nat) (j : Nat), (L2.wipe τ vs)[j]? = if j ∈ vs then (if j < τ.length then some none else none) else τ[j]? := fun τ vs => by
    induction vs with
    | nil => intro j; rfl
    | cons v vs ih =>
      intro j
      show ((L2.wipe τ vs).set v none)[j]? = _
      by_cases hv : v = j
      · subst hv
        rw [if_pos (List.mem_cons_self ..)]
        by_cases hlt : v < τ.length
        · rw [List.getElem?_set_self (by rw [wipe_length]; exact hlt), if_pos hlt]
        · rw [List.getElem?_eq_none (by rw [List.length_set, wipe_length]; omega), if_neg hlt]
      · rw [List.getElem?_set_ne hv, ih j]
        by_cases hj : j ∈ vs
        · rw [if_pos hj, if_pos (List.mem_cons_of_mem _ hj)]
        · rw [if_neg hj, if_neg (by intro z; rcases List.mem_cons.mp z with e | e; exact hv e.symm; exact hj e)]
  rw [key, key, wipe_length]
  by_cases hj : j ∈ vs
  · rw [if_pos hj, if_pos hj]
  · rw [if_neg hj]
/-- no set is walked -/
theorem ckI_set {c : Ck} {N : List Str} {sc : Scope} {it : II} {a : Expr} {b : Bool} (h : ckI c N sc it a b = true) (env : Env) : ∀ x, foldedSetIterable a env x = pure x := fun x => by
  cases a <;> first | rfl | skip
  exfalso
  cases it <;> first | exact Bool.noConfusion h | skip
  rename_i e
  cases e with
  | u1 k a => cases k <;> exact Bool.noConfusion h
  | u2 k a b => cases k <;> exact Bool.noConfusion h
  | _ => exact Bool.noConfusion h
section
variable {c : Ck} {n : Nat} {G : Ga}
theorem sC_none : SndC c n G .none := by
  intro T W sc X l hx hc Mc H0 H O P r σ hs Q h
  cases l with
  | cons _ _ => exact Bool.noConfusion hc
  | nil => exact PTs.wts pts_nil ((show ∀ H', Same H H' → Q true H' from h) H (Same.refl H))
theorem sC_some {e : IE} (ih : SndT c n G e) : SndC c n G (.some e) := by
  intro T W sc X l hx hc Mc H0 H O P r σ hs Q h
  match l, hc with
  | [], hc => exact Bool.noConfusion hc
  | _ :: _ :: _, hc => exact Bool.noConfusion hc
  | [y], hc =>
    have h : Sat ((evE T G e r).bind fun x => toB x) (fun k => ∀ H', Same H H' → Q k H') (exE c.xc X.K W σ H) := h
    exact PTs.wts (pts_one pt_wt) (ih hx hc hs (Sat.bind h))
theorem pt_ifx {X : Cx} {a b d : Expr} {tc ta tb : TT} {pos : Pos} (hc : PT X d tc) (ha : PT X a ta) (hb : PT X b tb) : PT X (.IfExp d a b pos) (fun σ H Q => tc σ H fun k H1 => if k = true then ta σ H1 Q else tb σ H1 Q) := by
  (refine ⟨fun pins s σ H Q I h => ?_⟩)
  refine isTrue_IfExp (thn (hc.run pins s σ H _ I h) fun k s1 ⟨H1, I1, q1⟩ => ?_)
  cases k with
  | true => exact ha.run pins s1 σ H1 _ I1 q1
  | false => exact hb.run pins s1 σ H1 _ I1 q1
theorem sT_ifx {t a b : IE} (iht : SndT c n G t) (iha : SndT c n G a) (ihb : SndT c n G b) : SndT c n G (.ifx t a b) := by
  intro T W sc X e hx hc Mc H0 H O P r σ hs Q h
  obtain ⟨l, r1, r2, p, rfl, ht, ha, hb⟩ := iv_ifx hc
  refine PT.wt (pt_ifx pt_wt pt_wt pt_wt) ?_
  have h : Sat ((evE T G t r).bind fun x => (toB x).bind fun k => if k = true then evE T G a r else evE T G b r) (fun x => Sat (toB x) (fun k => ∀ H', Same H H' → Q k H') (exE c.xc X.K W σ H)) (exE c.xc X.K W σ H) := h
  refine iht hx ht hs (Sat.mono (Sat.bind h) (fun x _ h1 => Sat.mono (Sat.bind h1) (fun k _ h2 H1 s1 => ?_) fun z hz => hz) fun z hz => hz)
  have mono : ∀ ra : R D, Sat ra (fun x => Sat (toB x) (fun k => ∀ H', Same H H' → Q k H') (exE c.xc X.K W σ H)) (exE c.xc X.K W σ H) → Sat ra (fun x => Sat (toB x) (fun k => ∀ H', Same H1 H' → Q k H') (exE c.xc X.K W σ H1)) (exE c.xc X.K W σ H1) := fun ra q =>
    Sat.mono q (fun d _ hd => Sat.mono hd (fun k _ hk H2 s2 => hk H2 (s1.trans s2)) fun z hz => exE.same s1 hz) fun z hz => exE.same s1 hz
  cases k with
  | true => exact iha hx ha (hs.grow s1) (mono _ h2)
  | false => exact ihb hx hb (hs.grow s1) (mono _ h2)
theorem sT_var {i : Nat} (ih : SndE c n G (.var i)) : SndT c n G (.var i) := by
  intro T W sc X a' hx hc Mc H0 H O P r σ hs Q h
  have q := ih hx hc hs (Q := fun x H1 => ∃ k, x = .bl k ∧ Q k H1) (wt_val (hs.trk _) h)
  obtain ⟨x, p, rfl, _⟩ := iv_var hc
  exact wt_of (fun _ => rfl) q
theorem sT_con {d : D} (ih : SndE c n G (.con d)) : SndT c n G (.con d) := by
  intro T W sc X a' hx hc Mc H0 H O P r σ hs Q h
  have q := ih hx hc hs (Q := fun x H1 => ∃ k, x = .bl k ∧ Q k H1) (wt_val (hs.trk _) h)
  obtain ⟨k, j, p, rfl, _⟩ := iv_con hc
  exact wt_of (fun _ => rfl) q
theorem sT_glob {j : Nat} (ih : SndE c n G (.glob j)) : SndT c n G (.glob j) := by
  intro T W sc X a' hx hc Mc H0 H O P r σ hs Q h
  have q := ih hx hc hs (Q := fun x H1 => ∃ k, x = .bl k ∧ Q k H1) (wt_val (hs.trk _) h)
  obtain ⟨x, p, q, rfl, _⟩ := iv_glob hc
  exact wt_of (fun _ => rfl) q
theorem sT_bin {o : Operator} {a : IE} {b : IE} (ih : SndE c n G (.bin o a b)) : SndT c n G (.bin o a b) := by
  intro T W sc X a' hx hc Mc H0 H O P r σ hs Q h
  have q := ih hx hc hs (Q := fun x H1 => ∃ k, x = .bl k ∧ Q k H1) (wt_val (hs.trk _) h)
  obtain ⟨l, rr, p, rfl, _⟩ := iv_bin hc
  exact wt_of (fun _ => rfl) q
theorem sT_rep {a : IE} {b : IE} (ih : SndE c n G (.rep a b)) : SndT c n G (.rep a b) := by
  intro T W sc X a' hx hc Mc H0 H O P r σ hs Q h
  have q := ih hx hc hs (Q := fun x H1 => ∃ k, x = .bl k ∧ Q k H1) (wt_val (hs.trk _) h)
  obtain ⟨l, rr, p, rfl, _⟩ := iv_rep hc
  exact wt_of (fun _ => rfl) q
theorem sT_neg {a : IE} (ih : SndE c n G (.neg a)) : SndT c n G (.neg a) := by
  intro T W sc X a' hx hc Mc H0 H O P r σ hs Q h
  have q := ih hx hc hs (Q := fun x H1 => ∃ k, x = .bl k ∧ Q k H1) (wt_val (hs.trk _) h)
  obtain ⟨l, p, rfl, _⟩ := iv_neg hc
  exact wt_of (fun _ => rfl) q
theorem sT_tup {es : Es} (ih : SndE c n G (.tup es)) : SndT c n G (.tup es) := by
  intro T W sc X a' hx hc Mc H0 H O P r σ hs Q h
  have q := ih hx hc hs (Q := fun x H1 => ∃ k, x = .bl k ∧ Q k H1) (wt_val (hs.trk _) h)
  obtain ⟨l, k, p, rfl, _⟩ := iv_tup hc
  exact wt_of (fun _ => rfl) q
theorem sT_lst {es : Es} (ih : SndE c n G (.lst es)) : SndT c n G (.lst es) := by
  intro T W sc X a' hx hc Mc H0 H O P r σ hs Q h
  have q := ih hx hc hs (Q := fun x H1 => ∃ k, x = .bl k ∧ Q k H1) (wt_val (hs.trk _) h)
  obtain ⟨l, p, rfl, _⟩ := iv_lst hc
  exact wt_of (fun _ => rfl) q
theorem sT_sub {a : IE} {i : IE} (ih : SndE c n G (.sub a i)) : SndT c n G (.sub a i) := by
  intro T W sc X a' hx hc Mc H0 H O P r σ hs Q h
  have q := ih hx hc hs (Q := fun x H1 => ∃ k, x = .bl k ∧ Q k H1) (wt_val (hs.trk _) h)
  obtain ⟨l, rr, p, rfl, _⟩ := iv_sub hc
  exact wt_of (fun _ => rfl) q
theorem sT_slc {a : IE} {lo : IO} {hi : IO} (ih : SndE c n G (.slc a lo hi)) : SndT c n G (.slc a lo hi) := by
  intro T W sc X a' hx hc Mc H0 H O P r σ hs Q h
  have q := ih hx hc hs (Q := fun x H1 => ∃ k, x = .bl k ∧ Q k H1) (wt_val (hs.trk _) h)
  obtain ⟨o, l, u, p2, p, rfl, _⟩ := iv_slc hc
  exact wt_of (fun _ => rfl) q
theorem sT_bi {f : B} {es : Es} (ih : SndE c n G (.bi f es)) : SndT c n G (.bi f es) := by
  intro T W sc X a' hx hc Mc H0 H O P r σ hs Q h
  have q := ih hx hc hs (Q := fun x H1 => ∃ k, x = .bl k ∧ Q k H1) (wt_val (hs.trk _) h)
  obtain ⟨x, p1, l, p, rfl, _⟩ := iv_bi hc
  exact wt_of (fun _ => rfl) q
theorem sT_lrev {a : IE} (ih : SndE c n G (.lrev a)) : SndT c n G (.lrev a) := by
  intro T W sc X a' hx hc Mc H0 H O P r σ hs Q h
  have q := ih hx hc hs (Q := fun x H1 => ∃ k, x = .bl k ∧ Q k H1) (wt_val (hs.trk _) h)
  obtain ⟨p1, p2, y, p3, p, rfl, _⟩ := iv_lrev hc
  exact wt_of (fun _ => rfl) q
theorem sT_lrg {a b : IE} (ih : SndE c n G (.lrg a b)) : SndT c n G (.lrg a b) := by
  intro T W sc X a' hx hc Mc H0 H O P r σ hs Q h
  have q := ih hx hc hs (Q := fun x H1 => ∃ k, x = .bl k ∧ Q k H1) (wt_val (hs.trk _) h)
  obtain ⟨p1, p2, y, y2, p3, p, rfl, _⟩ := iv_lrg hc
  exact wt_of (fun _ => rfl) q
theorem sT_fls {a : IE} (ih : SndE c n G (.fls a)) : SndT c n G (.fls a) := by
  intro T W sc X a' hx hc Mc H0 H O P r σ hs Q h
  have q := ih hx hc hs (Q := fun x H1 => ∃ k, x = .bl k ∧ Q k H1) (wt_val (hs.trk _) h)
  obtain ⟨⟨f, l, kw, p, rfl⟩, _⟩ := iv_fls hc
  exact wt_of (fun _ => rfl) q
theorem sT_sset {a : IE} (ih : SndE c n G (.sset a)) : SndT c n G (.sset a) := by
  intro T W sc X a' hx hc Mc H0 H O P r σ hs Q h
  have q := ih hx hc hs (Q := fun x H1 => ∃ k, x = .bl k ∧ Q k H1) (wt_val (hs.trk _) h)
  obtain ⟨p1, p2, y, p3, p, rfl, _⟩ := iv_sset hc
  exact wt_of (fun _ => rfl) q
theorem sT_idx {a b : IE} (ih : SndE c n G (.idx a b)) : SndT c n G (.idx a b) := by
  intro T W sc X a' hx hc Mc H0 H O P r σ hs Q h
  have q := ih hx hc hs (Q := fun x H1 => ∃ k, x = .bl k ∧ Q k H1) (wt_val (hs.trk _) h)
  obtain ⟨o, ap, y, p, rfl, _⟩ := iv_idx hc
  exact wt_of (fun _ => rfl) q
theorem sT_isi {a : IE} {t : String} (ih : SndE c n G (.isi a t)) : SndT c n G (.isi a t) := by
  intro T W sc X a' hx hc Mc H0 H O P r σ hs Q h
  have q := ih hx hc hs (Q := fun x H1 => ∃ k, x = .bl k ∧ Q k H1) (wt_val (hs.trk _) h)
  obtain ⟨f, p1, x, y, p2, p, rfl, _⟩ := iv_isi hc
  exact wt_of (fun _ => rfl) q
theorem sT_call {j : Nat} {es : Es} {ds : List D} {fl : Bool} (ih : SndE c n G (.call j es ds fl)) : SndT c n G (.call j es ds fl) := by
  intro T W sc X a' hx hc Mc H0 H O P r σ hs Q h
  have q := ih hx hc hs (Q := fun x H1 => ∃ k, x = .bl k ∧ Q k H1) (wt_val (hs.trk _) h)
  obtain ⟨x, p1, l, p, d, rfl, _⟩ := iv_call hc
  exact wt_of (fun _ => rfl) q
theorem sT_callk {j : Nat} {es : Es} {a : IE} (ih : SndE c n G (.callk j es a)) : SndT c n G (.callk j es a) := by
  intro T W sc X a' hx hc Mc H0 H O P r σ hs Q h
  have q := ih hx hc hs (Q := fun x H1 => ∃ k, x = .bl k ∧ Q k H1) (wt_val (hs.trk _) h)
  obtain ⟨x, p1, l, nm, v, kp, p, d, rfl, _⟩ := iv_callk hc
  exact wt_of (fun _ => rfl) q
theorem sT_u0 {t : Bool} (ih : SndE c n G (.u0 t)) : SndT c n G (.u0 t) := by
  intro T W sc X a' hx hc Mc H0 H O P r σ hs Q h
  have q := ih hx hc hs (Q := fun x H1 => ∃ k, x = .bl k ∧ Q k H1) (wt_val (hs.trk _) h)
  obtain ⟨p, rfl⟩ := iv_u0 hc
  exact wt_of (fun _ => rfl) q
theorem sT_u1 {k : U1} {a : IE} (ih : SndE c n G (.u1 k a)) : SndT c n G (.u1 k a) := by
  intro T W sc X a' hx hc Mc H0 H O P r σ hs Q h
  have q := ih hx hc hs (Q := fun x H1 => ∃ k, x = .bl k ∧ Q k H1) (wt_val (hs.trk _) h)
  cases k with
  | lrg1 =>
    obtain ⟨p1, p2, y, p3, p, rfl, _⟩ := iv_lrg1 hc
    exact wt_of (fun _ => rfl) q
  | rvs =>
    obtain ⟨y, k, p1, p2, p3, pos, rfl, _⟩ := iv_rvs hc
    exact wt_of (fun _ => rfl) q
  | dcp =>
    obtain ⟨p1, y, p, rfl, _⟩ := iv_dcp hc
    exact wt_of (fun _ => rfl) q
  | strI =>
    obtain ⟨p1, y, p, rfl, _⟩ := iv_strI hc
    exact wt_of (fun _ => rfl) q
theorem sT_u2 {k : U2} {a b : IE} (ih : SndE c n G (.u2 k a b)) : SndT c n G (.u2 k a b) := by
  intro T W sc X a' hx hc Mc H0 H O P r σ hs Q h
  have q := ih hx hc hs (Q := fun x H1 => ∃ k, x = .bl k ∧ Q k H1) (wt_val (hs.trk _) h)
  cases k with
  | cnt =>
    obtain ⟨o, ap, y, p, rfl, _⟩ := iv_cnt hc
    exact wt_of (fun _ => rfl) q
  | dlit =>
    obtain ⟨y, v, p, rfl, _⟩ := iv_dlit hc
    exact wt_of (fun _ => rfl) q
  | maxd => exact (iv_u2no (k := .maxd) (fun z => by cases z) (fun z => by cases z) hc).elim
  | mind => exact (iv_u2no (k := .mind) (fun z => by cases z) (fun z => by cases z) hc).elim
theorem sT_exIs {i : Nat} {cs : List Str} (ih : SndE c n G (.exIs i cs)) : SndT c n G (.exIs i cs) := by
  intro T W sc X a' hx hc Mc H0 H O P r σ hs Q h
  have q := ih hx hc hs (Q := fun x H1 => ∃ k, x = .bl k ∧ Q k H1) (wt_val (hs.trk _) h)
  obtain ⟨p1, x, p2, t, p, rfl, _⟩ := iv_exIs hc
  exact wt_of (fun _ => rfl) q
theorem sT_exAt {i : Nat} {f : Str} (ih : SndE c n G (.exAt i f)) : SndT c n G (.exAt i f) := by
  intro T W sc X a' hx hc Mc H0 H O P r σ hs Q h
  have q := ih hx hc hs (Q := fun x H1 => ∃ k, x = .bl k ∧ Q k H1) (wt_val (hs.trk _) h)
  obtain ⟨x, p2, p, rfl, _⟩ := iv_exAt hc
  exact wt_of (fun _ => rfl) q
theorem sT_dget {a k d : IE} (ih : SndE c n G (.dget a k d)) : SndT c n G (.dget a k d) := by
  intro T W sc X a' hx hc Mc H0 H O P r σ hs Q h
  have q := ih hx hc hs (Q := fun x H1 => ∃ k, x = .bl k ∧ Q k H1) (wt_val (hs.trk _) h)
  obtain ⟨o, ap, y, y2, p, rfl, _⟩ := iv_dget hc
  exact wt_of (fun _ => rfl) q
theorem sT_comp {own : List Nat} {e : IE} {t : IT} {it : II} {o : IO} (ih : SndE c n G (.comp own e t it o)) : SndT c n G (.comp own e t it o) := by
  intro T W sc X a' hx hc Mc H0 H O P r σ hs Q h
  have q := ih hx hc hs (Q := fun x H1 => ∃ k, x = .bl k ∧ Q k H1) (wt_val (hs.trk _) h)
  obtain ⟨elt, tg, iter, ifs, scope, p, rfl, _⟩ := iv_comp hc
  exact wt_of (fun _ => rfl) q

theorem star1 {a : Expr} {e : IE} {N : List Str} {sc : Scope} (h : ckE c N sc e a = true) (l : List Expr) (env : Env) : starEach (a :: l) env = (false, eval a env) :: starEach l env :=
  star_of fun x p q => by subst q; rw [ckE_star] at h; cases h
theorem sI_ex {e : IE} (ih : SndE c n G e) : SndI c n G (.ex e) := by
  intro T W sc X a tg hx hc Mc H0 H O P r σ hs R' h
  have hc : ckE c X.N sc e a = true := hc
  have h : Sat ((evE T G e r).bind itemsD) (fun ds => ∀ J H', Same H H' → Wk X.K (MM Mc P (etE e)) (MM Mc P (eiE e)) J ds H' → R' J H') (exE c.xc X.K W σ H) := h
  cases q : evE T G e r with
  | no => rw [q] at h; exact h.elim
  | ex z =>
    rw [q] at h
    exact PI.wi (pi_list pe_we) (ih hx hc hs (by rw [q]; exact h))
  | ok d =>
    rw [q] at h
    have h : Sat (itemsD d) (fun ds => ∀ J H', Same H H' → Wk X.K (MM Mc P (etE e)) (MM Mc P (eiE e)) J ds H' → R' J H') (exE c.xc X.K W σ H) := h
    have go : ∀ {Q : VK}, (∀ v H', Same H H' → RepT X.K (MM Mc P (etE e)) (MM Mc P (eiE e)) H' d v → Q v H') → WE X a σ H Q := fun {Q} hq =>
      ih hx hc hs (by rw [q]; exact fun v H' s r => hq v H' s (r.repT (hs.trk _)))
    match d, h with
    | .lst ds, h =>
      refine PI.wi (pi_list pe_we) (go fun v H1 s1 r1 => ?_)
      obtain ⟨p, ev, e1, w⟩ := wk_list ((hs.trk _).same s1) r1
      exact ⟨p, ev, e1, h _ H1 s1 w⟩
    | .tup ds, h =>
      refine PI.wi (pi_tup pe_we) (go fun v H1 s1 r1 => ?_)
      obtain ⟨p, ev, e1, w⟩ := wk_tup (Mt := MM Mc P (etE e)) ((hs.trk _).same s1) r1
      exact ⟨p, ev, e1, h _ H1 s1 w⟩
    | .str z, h =>
      refine PI.wi (pi_str pe_we) (go fun v H1 s1 r1 => ?_)
      exact ⟨z, r1, h _ H1 s1 wk_str⟩
    | .non, h => exact h.elim
    | .bl _, h => exact h.elim
    | .int _, h => exact h.elim
    | .dK _ _, h => exact h.elim
    | .dT _ _, h => exact h.elim
    | .ex _ _, h => exact h.elim
theorem rng_ok {i j : Int} (h : rngOk i j = true) : -(2 ^ 62) ≤ i ∧ i < 2 ^ 62 ∧ -(2 ^ 62) ≤ j ∧ j < 2 ^ 62 := by
  unfold rngOk at h
  simpa only [Bool.and_eq_true, decide_eq_true_eq] using h
theorem sI_rg1 {a : IE} (ih : SndE c n G a) : SndI c n G (.rg1 a) := by
  intro T W sc X e tg hx hc Mc H0 H O P r σ hs R' h
  match e, hc with
  | .Call (.Name x p1) [q] [] p, hc =>
    have hc : (decide (x = "range") && (bltB c sc x && ckE c X.N sc a q)) = true := hc
    (simp only [Bool.and_eq_true, decide_eq_true_eq] at hc)
    obtain ⟨rfl, hb, ha⟩ := hc
    obtain ⟨b1, b2, b3, b4⟩ := hx.blt hb
    have s0 := star1 ha [] X.env
    refine PI.wi (pi_range1 b1 b2 (pa_cons pe_we pa_nil s0) s0) ?_
    have h : Sat ((evE T G a r).bind fun x => (intD x).bind fun n => if rngOk 0 n = true then R.ok ((rangeI 0 n.toNat).map D.int) else .no) (fun ds => ∀ J H', Same H H' → Wk X.K (MM Mc P []) (MM Mc P []) J ds H' → R' J H') (exE c.xc X.K W σ H) := h
    refine ih hx ha hs (Sat.mono (Sat.bind h) (fun y _ h1 v H1 s1 r1 => ?_) fun z hz => hz)
    obtain ⟨k, ek, hk⟩ := Sat.val (Sat.bind h1) fun z => intD_ex
    have e2 := intD_ok ek
    subst e2
    split at hk
    · rename_i ho
      obtain ⟨o1, o2, o3, o4⟩ := rng_ok ho
      exact ⟨k, by rw [(r1.repT (hs.trk _)).int], o3, o4, (show ∀ J H', Same H H' → Wk X.K (MM Mc P []) (MM Mc P []) J ((rangeI 0 k.toNat).map D.int) H' → R' J H' from hk) _ H1 s1 wk_range⟩
    · exact hk.elim
theorem sI_rg2 {a b : IE} (iha : SndE c n G a) (ihb : SndE c n G b) : SndI c n G (.rg2 a b) := by
  intro T W sc X e tg hx hc Mc H0 H O P r σ hs R' h
  match e, hc with
  | .Call (.Name x p1) [q, q2] [] p, hc =>
    have hc : (decide (x = "range") && (bltB c sc x && (ckE c X.N sc a q && ckE c X.N sc b q2))) = true := hc
    (simp only [Bool.and_eq_true, decide_eq_true_eq] at hc)
    obtain ⟨rfl, hb, ha, hb'⟩ := hc
    obtain ⟨b1, b2, b3, b4⟩ := hx.blt hb
    have s2 := star1 hb' [] X.env
    have s1 := star1 ha [q2] X.env
    refine PI.wi (pi_range2 b1 b2 (pa_cons pe_we (pa_cons pe_we pa_nil s2) s1) (by rw [s1, s2]; rfl) s2) ?_
    have h : Sat ((evE T G a r).bind fun x => (evE T G b r).bind fun y => (intD x).bind fun i => (intD y).bind fun j => if rngOk i j = true then R.ok ((rangeI i (j - i).toNat).map D.int) else .no) (fun ds => ∀ J H', Same H H' → Wk X.K (MM Mc P []) (MM Mc P []) J ds H' → R' J H') (exE c.xc X.K W σ H) := h
    refine two (fra := frE c a) (frb := frE c b) (iha hx ha hs) (fun s => ihb hx hb' (hs.grow s)) (hs.trk _) (hs.trk _) h fun x y v u H2 s2 r1 r2 hh => ?_
    obtain ⟨k, ek, hk⟩ := Sat.val (Sat.bind hh) fun z => intD_ex
    have e2 := intD_ok ek
    subst e2
    obtain ⟨k2, ek2, hk2⟩ := Sat.val (Sat.bind hk) fun z => intD_ex
    have e3 := intD_ok ek2
    subst e3
    split at hk2
    · rename_i ho
      exact ⟨k, k2, by rw [r1.int, r2.int], rng_ok ho, (show ∀ J H', Same H H' → Wk X.K (MM Mc P []) (MM Mc P []) J ((rangeI k (k2 - k).toNat).map D.int) H' → R' J H' from hk2) _ H2 s2 wk_range⟩
    · exact hk2.elim
theorem sI_enum {e : IE} (ih : SndE c n G e) : SndI c n G (.enum e) := by
  intro T W sc X a tg hx hc Mc H0 H O P r σ hs R' h
  match a, hc with
  | .Call (.Name x p1) [q] [] p, hc =>
    have hc : (decide (x = "enumerate") && (isTup tg && (bltB c sc x && ckE c X.N sc e q))) = true := hc
    (simp only [Bool.and_eq_true, decide_eq_true_eq] at hc)
    obtain ⟨rfl, ht, hb, ha⟩ := hc
    obtain ⟨b1, b2, b3, b4⟩ := hx.blt hb
    cases tg <;> first | exact Bool.noConfusion ht | skip
    have s0 := star1 ha [] X.env
    refine PI.wi (pi_enum b1 b2 (pa_cons pe_we pa_nil s0) s0) ?_
    have h : Sat ((evE T G e r).bind fun x => (listD x).bind fun ds => R.ok (enumD 0 ds)) (fun ds => ∀ J H', Same H H' → Wk X.K (MM Mc P (etE e)) (MM Mc P (eiE e)) J ds H' → R' J H') (exE c.xc X.K W σ H) := h
    refine ih hx ha hs (Sat.mono (Sat.bind h) (fun y _ h1 v H1 s1 r1 => ?_) fun z hz => hz)
    cases ey : listD y with
    | no => rw [ey] at h1; exact h1.elim
    | ex z => unfold listD at ey; split at ey <;> cases ey
    | ok ds =>
      rw [ey] at h1
      have e2 := listD_ok ey
      subst e2
      obtain ⟨p, ev, ⟨xs, e1⟩, w⟩ := wk_enum ((hs.trk _).same s1) (r1.repT (hs.trk _))
      exact ⟨p, xs, by rw [ev], e1, (show ∀ J H', Same H H' → Wk X.K (MM Mc P (etE e)) (MM Mc P (eiE e)) J (enumD 0 ds) H' → R' J H' from h1) _ H1 s1 w⟩
theorem sI_zip {a b : IE} (iha : SndE c n G a) (ihb : SndE c n G b) : SndI c n G (.zip a b) := by
  intro T W sc X e tg hx hc Mc H0 H O P r σ hs R' h
  match e, hc with
  | .Call (.Name x p1) [q, q2] [] p, hc =>
    have hc : (decide (x = "zip") && (isTup tg && (bltB c sc x && (ckE c X.N sc a q && ckE c X.N sc b q2)))) = true := hc
    (simp only [Bool.and_eq_true, decide_eq_true_eq] at hc)
    obtain ⟨rfl, ht, hb, ha, hb'⟩ := hc
    obtain ⟨b1, b2, b3, b4⟩ := hx.blt hb
    cases tg <;> first | exact Bool.noConfusion ht | skip
    have s2 := star1 hb' [] X.env
    have s1 := star1 ha [q2] X.env
    refine PI.wi (pi_zip b1 b2 (pa_cons pe_we (pa_cons pe_we pa_nil s2) s1) (by first | exact s1 | (rw [s1, s2]; rfl)) (by first | exact s2 | (rw [s2]; rfl))) ?_
    have h : Sat ((evE T G a r).bind fun x => (evE T G b r).bind fun y => (listD x).bind fun ds => (listD y).bind fun es => R.ok (zipD ds es)) (fun ds => ∀ J H', Same H H' → Wk X.K (MM Mc P (etE a ++ etE b)) (MM Mc P (eiE a ++ eiE b)) J ds H' → R' J H') (exE c.xc X.K W σ H) := h
    refine iha hx ha hs (Sat.mono (Sat.bind h) (fun x _ h1 v H1 s1 r1 => ?_) fun z hz => hz)
    refine ihb hx hb' (hs.grow s1) (Sat.mono (Sat.bind h1) (fun y _ h2 u H2 s2 r2 => ?_) fun z hz => exE.same s1 hz)
    cases ex : listD x with
    | no => rw [ex] at h2; exact h2.elim
    | ex z => unfold listD at ex; split at ex <;> cases ex
    | ok ds =>
      rw [ex] at h2
      have h2 : Sat ((listD y).bind fun es => R.ok (zipD ds es)) (fun ds => ∀ J H', Same H H' → Wk X.K (MM Mc P (etE a ++ etE b)) (MM Mc P (eiE a ++ eiE b)) J ds H' → R' J H') (exE c.xc X.K W σ H) := h2
      cases ey : listD y with
      | no => rw [ey] at h2; exact h2.elim
      | ex z => unfold listD at ey; split at ey <;> cases ey
      | ok es =>
        rw [ey] at h2
        have e1 := listD_ok ex
        subst e1
        have e2 := listD_ok ey
        subst e2
        have q1 := ((r1.repT (hs.trk _)).same s2).less (MM.l (L' := etE b)) (MM.l (L' := eiE b))
        have q2 := (r2.repT ((hs.trk _).same s1)).less (MM.r (L := etE a)) (MM.r (L := eiE a))
        obtain ⟨p, p', ev, ev', ⟨xs, e1⟩, ⟨ys, e2⟩, w⟩ := wk_zip ((hs.trk _).same (s1.trans s2)) q1 q2
        exact ⟨p, p', xs, ys, by rw [ev, ev'], e1, e2, (show ∀ J H', Same H H' → Wk X.K (MM Mc P (etE a ++ etE b)) (MM Mc P (eiE a ++ eiE b)) J (zipD ds es) H' → R' J H' from h2) _ H2 (s1.trans s2) w⟩
end
end PL

namespace PL
open L2 PyProof.Rows PySem.Spec PySem
section
variable {c : Ck} {n : Nat} {G : Ga}
theorem sI_rg3 {a b d : IE} (iha : SndE c n G a) (ihb : SndE c n G b) (ihd : SndE c n G d) : SndI c n G (.rg3 a b d) := by
  intro T W sc X e tg hx hc Mc H0 H O P r σ hs R' h
  match e, hc with
  | .Call (.Name x p1) [q, q2, q3] [] p, hc =>
    have hc : (decide (x = "range") && (bltB c sc x && (ckE c X.N sc a q && (ckE c X.N sc b q2 && ckE c X.N sc d q3)))) = true := hc
    (simp only [Bool.and_eq_true, decide_eq_true_eq] at hc)
    obtain ⟨rfl, hb, ha, hb', hd'⟩ := hc
    obtain ⟨b1, b2, b3, b4⟩ := hx.blt hb
    have s3 := star1 hd' [] X.env
    have s2 := star1 hb' [q3] X.env
    have s1 := star1 ha [q2, q3] X.env
    refine PI.wi (pi_range3 b1 b2 (pa_cons pe_we (pa_cons pe_we (pa_cons pe_we pa_nil s3) s2) s1) s1 (by rw [s2, s3]; rfl)) ?_
    have h : Sat ((evE T G a r).bind fun x => (evE T G b r).bind fun y => (evE T G d r).bind fun z => (intD x).bind fun i => (intD y).bind fun j => (intD z).bind fun k =>
      if k = -1 ∧ rngOk i j = true then R.ok ((List.range (i - j).toNat).map fun m => D.int (i + (m : Nat) * (-1))) else .no) (fun ds => ∀ J H', Same H H' → Wk X.K (MM Mc P []) (MM Mc P []) J ds H' → R' J H') (exE c.xc X.K W σ H) := h
    refine two (fra := frE c a) (frb := frE c b) (iha hx ha hs) (fun s => ihb hx hb' (hs.grow s)) (hs.trk _) (hs.trk _) h fun x y v u H2 s2 r1 r2 hh => ?_
    refine ihd hx hd' (hs.grow s2) (Sat.mono (Sat.bind hh) (fun z _ h3 w H3 s3 r3 => ?_) fun z hz => exE.same s2 hz)
    obtain ⟨i, ei, hi⟩ := Sat.val (Sat.bind h3) fun z => intD_ex
    have e1 := intD_ok ei
    subst e1
    obtain ⟨j, ej, hj⟩ := Sat.val (Sat.bind hi) fun z => intD_ex
    have e2 := intD_ok ej
    subst e2
    obtain ⟨k, ek, hk⟩ := Sat.val (Sat.bind hj) fun z => intD_ex
    have e3 := intD_ok ek
    subst e3
    split at hk
    · rename_i ho
      obtain ⟨rfl, ho⟩ := ho
      obtain ⟨o1, o2, o3, o4⟩ := rng_ok ho
      exact ⟨i, j, -1, (i - j).toNat, by rw [r1.int, r2.int, (r3.repT ((hs.trk _).same s2)).int], RgC.neg o1 o2 o3 o4,
        (show ∀ J H', Same H H' → Wk X.K (MM Mc P []) (MM Mc P []) J ((List.range (i - j).toNat).map fun m => D.int (i + (m : Nat) * (-1))) H' → R' J H' from hk) _ H3 (s2.trans s3) wk_rangeC⟩
    · exact hk.elim
theorem takes0N {X : Cx} : L2N.Takes X (fun _ _ _ _ => False) := fun _ _ x => by
  (obtain ⟨_, _, _, _, _, _, _, _, _, _, _, _, _, _, _, _, z⟩ := x)
  exact z.elim
/-- a comprehension's parts -/
def gC (X : Cx) (scope : Scope) (tg : Expr) : TG := fun v σ H Q => ∀ (s : Shared) (H0 : Hp) (C : Addr) (cl : List (Str × Addr)) (fp : List Addr), WG (X.blk s H0 scope (compEnvC scope cl C X.env) fp) tg v σ H Q
def tC (X : Cx) (scope : Scope) (ifs : List Expr) : TT := fun σ H Q => ∀ (s : Shared) (H0 : Hp) (C : Addr) (cl : List (Str × Addr)) (fp : List Addr), WTs (X.blk s H0 scope (compEnvC scope cl C X.env) fp) ifs σ H Q
def eC (X : Cx) (scope : Scope) (elt : Expr) : TE := fun σ H Q => ∀ (s : Shared) (H0 : Hp) (C : Addr) (cl : List (Str × Addr)) (fp : List Addr), WE (X.blk s H0 scope (compEnvC scope cl C X.env) fp) elt σ H Q
theorem comp_core {own : List Nat} {e : IE} {t : IT} {it : II} {o : IO} (ihe : SndE c n G e) (ihi : SndI c n G it) (iho : SndC c n G o) {T : List (Str × PL.D)} {W : WX} {sc : Scope} {X : Cx} (hx : SX c T n G W sc X) (h0 : c.hot = false) {elt tg iter : Expr} {ifs : List Expr} {scope : Scope}
    (hi : ckI c X.N sc it iter (isTup tg) = true) (ht : ckT X.N (relS scope sc) t tg = true) (hl : lclT X.N (relS scope sc) own t = true) (he : ckE c X.N (relS scope sc) e elt = true) (ho : ckC c X.N (relS scope sc) o ifs = true)
    {Mc : AS} {H0 H : Hp} {O : List Nat} {P : Nat → Option Addr} {r : En} {σ : L2.St} (hs : SR X.K Mc H0 O P r σ H) {Q : VK} (h : Sat (evE T G (.comp own e t it o) r) (okE X.K true (MM Mc P []) (MM Mc P ((own ++ eiI it) ++ (etE e ++ eiE e))) H Q) (exE c.xc X.K W σ H)) :
    tLc (WI X tg iter) (gC X scope tg) (tC X scope ifs) (eC X scope elt) own σ H Q := by
  have hxb : ∀ (s : Shared) (H : Hp) (C : Addr) (cl : List (Str × Addr)) (fp : List Addr), SX c T n G (fun _ _ _ _ => False) (relS scope sc) (X.blk s H scope (compEnvC scope cl C X.env) fp) := fun s H C cl fp =>
    { nd := hx.nd, calm := hx.calm, scope := by rw [← hx.scope]; rfl, room := hx.room, roomH := hx.roomH, hotc := (fun z => by rw [h0] at z; cases z), tk := takes0N, free := hx.free, fn := fun j d q => ⟨(hx.fn j d q).ex⟩, cst := hx.cst, xc := fun x f q => let z := hx.xc x f q; ⟨z.nv, z.mg, z.keep, z.typ, z.exB, z.exc, z.ga, z.gg, z.hd, z.ca, z.mro, z.exV, z.ktV, z.fld⟩, xcm := hx.xcm, spc := hx.spc, cur := fun a x xs q => by have z := (hx.cur a x xs q).1; rw [h0] at z; cases z }
  have hsub : ∀ j, j ∈ tgts t → j ∈ own := fun j hj => by
    unfold lclT at hl
    have q := List.all_eq_true.mp hl j hj
    rw [Bool.and_eq_true] at q
    exact List.contains_iff_mem.mp q.1
  have h : Sat ((evI T G it r).bind fun ds => (compD (turnF T G own e t o r) ds).bind fun ys => if ds.length ≤ 1000000 then R.ok (D.lst ys) else .no)
    (okE X.K true (MM Mc P []) (MM Mc P ((own ++ eiI it) ++ (etE e ++ eiE e))) H Q) (exE c.xc X.K W σ H) := h
  refine ihi hx hi hs (Sat.mono (Sat.bind h) (fun ds _ h1 J H1 s1 wk => ?_) fun z hz => hz)
  obtain ⟨all, eall, h2⟩ := Sat.val (Sat.bind h1) fun z => compD_nex
  have hlen : ds.length ≤ 1000000 := by
    by_cases q : ds.length ≤ 1000000
    · exact q
    · rw [if_neg q] at h2; exact h2.elim
  rw [if_pos hlen] at h2
  have h2 : okE X.K true (MM Mc P []) (MM Mc P ((own ++ eiI it) ++ (etE e ++ eiE e))) H Q (.lst all) := h2
  intro D0 hD
  have hsD := (hs.grow s1).drop (own ++ eiI it)
  -- what is kept off while the items come to be
  let MA : AS := MM (fun a => Mc a ∨ a = D0) (offP P (own ++ eiI it)) (etE e ++ eiE e)
  have md : MA D0 := .inl (.inr rfl)
  let Wt : Nat → Hp → Prop := fun i Hc => Same H1 Hc ∧ ∃ yd acc rest, Hc D0 = some (.lst acc) ∧ Reps X.K MA Hc yd acc ∧ acc.length ≤ i ∧ compD (turnF T G own e t o r) (ds.drop i) = .ok rest ∧ yd ++ rest = all
  refine ⟨fun i m Hc => m = ds.length - i ∧ i ≤ ds.length ∧ Wt i Hc, ⟨ds.length, by simp, Nat.zero_le _, same_new hD, [], [], all, upd_same, rfl, Nat.zero_le _, eall, rfl⟩, ?_⟩
  rintro i m Hc ⟨rfl, hil, sm, yd, acc, rest, eD, ra, hacc, hcd, heq⟩
  have hs2 : SR X.K (fun a => Mc a ∨ a = D0) H0 (offO O (own ++ eiI it)) (offP P (own ++ eiI it)) r σ Hc := hsD.more hD (o := .lst acc) trivial eD sm
  have wk' := wk (fun a => a = D0) (MM (fun a => Mc a ∨ a = D0) (offP P (own ++ eiI it)) []) Hc (fun a z => .inr (by rw [z]; exact hD)) (fun a z => by
    rcases z with (z | z) | ⟨j, _, z⟩
    · exact .inl (.inl z)
    · exact .inr (by rw [z]; exact hD)
    · obtain ⟨n1, n2⟩ := offP_some z
      exact .inl (.inr ⟨j, fun q => n1 (List.mem_append_right _ q), n2⟩)) (Kp.of sm)
  by_cases hlt : i < ds.length
  · have hget : ds[i]? = some ds[i] := List.getElem?_eq_getElem hlt
    have hdrop : ds.drop i = ds[i] :: ds.drop (i + 1) := List.drop_eq_getElem_cons hlt
    rw [hdrop] at hcd
    obtain ⟨ov, rest2, hf, hcd2, hrest⟩ := compD_cons hcd
    refine .inr ⟨(wk'.1 i _ hget).1, Wt (i + 1), fun H' p' => ⟨ds.length - (i + 1), by omega, rfl, hlt, p'⟩, fun x H3 hy => ?_⟩
    obtain ⟨s3, rx⟩ := (wk'.1 i _ hget).2 x H3 hy
    have hs3 := (hs2.wipe own).grow s3
    intro sA HA CA clA fpA
    unfold turnF at hf
    cases ea : asgT t ds[i] (wipeE r own) with
    | no => rw [ea] at hf; cases hf
    | ex z => rw [ea] at hf; cases hf
    | ok r1 =>
    rw [ea] at hf
    have hf : ((evC T G o r1).bind fun k => if k = true then (evE T G e r1).bind fun x => R.ok (some x) else R.ok none) = .ok ov := hf
    refine sndG (hxb sA HA CA clA fpA) (hx.calm h0) t tg ht hs3 (fun j hj => ?_) rx ea fun σ2 hs4 hk => ⟨?_, ?_⟩
    · unfold lclT at hl
      have q := List.all_eq_true.mp hl j hj
      rw [Bool.and_eq_true] at q
      have hjo : j ∈ own := List.contains_iff_mem.mp q.1
      refine ⟨if_pos (List.mem_append_left _ hjo), fun z => (mem_offO.mp z).2 (List.mem_append_left _ hjo), fun y hy => .inr ?_⟩
      have q2 := q.2
      rw [show X.N[j]? = some y from hy] at q2
      have q2 : locB (relS scope sc) y = true := q2
      unfold locB at q2
      split at q2
      · rename_i e; exact e
      · cases q2
    · have hln : σ2.length = (L2.wipe σ own).length := by
        rw [hs4.len, hs3.len]
        exact asgT_len ea
      have e1 : L2.wipe σ2 own = L2.wipe (L2.wipe σ own) own := wipe_cong (vs := own) hln fun j hj => hk j fun z => hj (hsub j z)
      rw [e1, wipe_wipe]
    · intro sB HB CB clB fpB
      cases ec : evC T G o r1 with
      | no => rw [ec] at hf; cases hf
      | ex z => rw [ec] at hf; cases hf
      | ok k =>
      rw [ec] at hf
      refine iho (hxb sB HB CB clB fpB) ho hs4 ?_
      rw [ec]
      intro H4 s4
      have smn : Same H1 H4 := (sm.trans s3).trans s4
      cases k with
      | false =>
        have hf : R.ok none = .ok ov := hf
        cases hf
        (rw [if_neg Bool.false_ne_true])
        exact ⟨smn, yd, acc, rest2, (s3.trans s4) _ _ eD, ra.same (s3.trans s4), by omega, hcd2, by rw [← heq, hrest]; rfl⟩
      | true =>
        rw [if_pos rfl]
        have hf : ((evE T G e r1).bind fun x => R.ok (some x)) = .ok ov := hf
        intro sC HC CC clC fpC
        cases ev : evE T G e r1 with
        | no => rw [ev] at hf; cases hf
        | ex z => rw [ev] at hf; cases hf
        | ok d =>
        rw [ev] at hf
        have hf : R.ok (some d) = .ok ov := hf
        cases hf
        refine ihe (hxb sC HC CC clC fpC) he (hs4.grow s4) ?_
        rw [ev]
        intro y H5 s5 r5
        have sA5 := (s3.trans s4).trans s5
        have eD5 : H5 D0 = some (.lst acc) := sA5 _ _ eD
        have ry : Rep X.K MA H5 d y := ((r5.repT ((hs4.grow s4).trk _)).less (MM.l (L' := eiE e)) (MM.r (L := etE e))).rep
        have gw : Gr X.K MA H5 MA (upd H5 D0 (.lst (acc ++ [y]))) := Gr.write md eD5 (fun _ z => nomatch z) fun _ _ z => nomatch z
        refine ⟨acc, eD5, by rw [sizeLine_eq]; omega, ?_, yd ++ [d], acc ++ [y], rest2, upd_same, Reps.gr gw _ _ (Reps.app (ra.same sA5) (Reps.one ry)), by rw [List.length_append]; simp; omega, hcd2, by rw [List.append_assoc, ← heq, hrest]; rfl⟩
        intro b ob eb
        rw [upd_ne (ne_of_none eb hD)]
        exact (smn.trans s5) _ _ eb
  · have e0 : i = ds.length := by omega
    subst e0
    refine .inl ⟨wk'.2, h2 _ Hc (s1.trans sm) ⟨D0, acc, rfl, s1.free hD, eD, ?_⟩⟩
    rw [List.drop_length] at hcd
    cases hcd
    rw [List.append_nil] at heq
    subst heq
    refine Reps.less (fun a z => ?_) ra
    rcases z with (z | ⟨j, n1, n2⟩) | z
    · exact .inl (.inl z)
    · exact .inr ⟨j, fun q => n1 (List.mem_append_right _ q), by unfold offP; rw [if_neg fun q => n1 (List.mem_append_left _ q)]; exact n2⟩
    · exact .inl (.inr z)
theorem gC_pg {X : Cx} {scope : Scope} {tg : Expr} (s : Shared) (H : Hp) (C : Addr) (cl : List (Str × Addr)) (fp : List Addr) : PG (X.blk s H scope (compEnvC scope cl C X.env) fp) tg (gC X scope tg) := ⟨fun pins s1 σ H1 v u Q I r h => h s H C cl fp pins s1 u I r⟩
theorem tC_pt {X : Cx} {scope : Scope} {ifs : List Expr} (s : Shared) (H : Hp) (C : Addr) (cl : List (Str × Addr)) (fp : List Addr) : PTs (X.blk s H scope (compEnvC scope cl C X.env) fp) ifs (tC X scope ifs) := ⟨fun pins s1 σ H1 Q I h => h s H C cl fp pins s1 I⟩
theorem eC_pe {X : Cx} {scope : Scope} {elt : Expr} (s : Shared) (H : Hp) (C : Addr) (cl : List (Str × Addr)) (fp : List Addr) : PE (X.blk s H scope (compEnvC scope cl C X.env) fp) elt (eC X scope elt) := ⟨fun pins s1 σ H1 Q I h => h s H C cl fp pins s1 I⟩
theorem sE_comp {own : List Nat} {e : IE} {t : IT} {it : II} {o : IO} (ihe : SndE c n G e) (ihi : SndI c n G it) (iho : SndC c n G o) : SndE c n G (.comp own e t it o) := by
  intro T W sc X a hx hc Mc H0 H O P r σ hs Q h
  obtain ⟨elt, tg, iter, ifs, scope, p, rfl, hb, hown, hi, ht, hl, he, ho, h0⟩ := iv_comp hc
  have ok : BlkOk X.N X.env.scope scope (ownN X.N own) := by rw [hx.scope]; exact blkOk_by hb
  refine PE.we (pe_lc (hx.calm h0) hx.nd pi_wi ok gC_pg tC_pt eC_pe (ckI_set hi X.env)) ?_
  rw [hown]
  exact comp_core ihe ihi iho hx h0 hi ht hl he ho hs h
end
end PL

namespace PL
open L2 PyProof.Rows PySem.Spec PySem
section
variable {c : Ck} {n : Nat} {G : Ga}
abbrev SndF (c : Ck) (n : Nat) (G : Ga) (es : Es) : Prop := SndS c n G es ∧ SndAnd c n G es ∧ SndOr c n G es ∧ SndAndT c n G es ∧ SndOrT c n G es
theorem and_of {e : IE} {es : Es} (h : SndE c n G e) (g : SndAnd c n G es) : SndAnd c n G (.cons e es) := by
  cases es with
  | nil => exact sAnd_one h
  | cons a b => exact sAnd_cons h g
theorem or_of {e : IE} {es : Es} (h : SndE c n G e) (g : SndOr c n G es) : SndOr c n G (.cons e es) := by
  cases es with
  | nil => exact sOr_one h
  | cons a b => exact sOr_cons h g
theorem andT_of {e : IE} {es : Es} (h : SndT c n G e) (g : SndAndT c n G es) : SndAndT c n G (.cons e es) := by
  cases es with
  | nil => exact sAndT_one h
  | cons a b => exact sAndT_cons h g
theorem orT_of {e : IE} {es : Es} (h : SndT c n G e) (g : SndOrT c n G es) : SndOrT c n G (.cons e es) := by
  cases es with
  | nil => exact sOrT_one h
  | cons a b => exact sOrT_cons h g
theorem prE {e : IE} (h : SndE c n G e) (f : SndE c n G e → SndT c n G e) : SndE c n G e ∧ SndT c n G e := ⟨h, f h⟩
mutual
theorem sndET : ∀ e : IE, SndE c n G e ∧ SndT c n G e
  | .var i => prE sE_var (fun h => sT_var h)
  | .con d => prE sE_con (fun h => sT_con h)
  | .glob j => prE sE_glob (fun h => sT_glob h)
  | .bin o a b => prE (sE_bin (sndET a).1 (sndET b).1) (fun h => sT_bin h)
  | .rep a b => prE (sE_rep (sndET a).1 (sndET b).1) (fun h => sT_rep h)
  | .neg a => prE (sE_neg (sndET a).1) (fun h => sT_neg h)
  | .cmp o a b => have ha : SndE c n G a := (sndET a).1; have hb : SndE c n G b := (sndET b).1; ⟨sE_cmp ha hb, sT_cmp ha hb⟩
  | .cmp2 o p a b d => have ha : SndE c n G a := (sndET a).1; have hb : SndE c n G b := (sndET b).1; have hd : SndE c n G d := (sndET d).1; ⟨sE_cmp2 ha hb hd, sT_cmp2 ha hb hd⟩
  | .cmp3 o p q a b d e => have ha : SndE c n G a := (sndET a).1; have hb : SndE c n G b := (sndET b).1; have hd : SndE c n G d := (sndET d).1; have he : SndE c n G e := (sndET e).1; ⟨sE_cmp3 ha hb hd he, sT_cmp3 ha hb hd he⟩
  | .not a => have h := sndET a; ⟨sE_not h.1, sT_not h.2⟩
  | .and es => have h := sndSS es; ⟨sE_and h.2.1, sT_and h.2.2.2.1⟩
  | .or es => have h := sndSS es; ⟨sE_or h.2.2.1, sT_or h.2.2.2.2⟩
  | .ifx t a b => have ht := sndET t; have ha := sndET a; have hb := sndET b; ⟨sE_ifx ht.2 ha.1 hb.1, sT_ifx ht.2 ha.2 hb.2⟩
  | .tup es => prE (sE_tup (sndSS es).1) (fun h => sT_tup h)
  | .lst es => prE (sE_lst (sndSS es).1) (fun h => sT_lst h)
  | .sub a i => prE (sE_sub (sndET a).1 (sndET i).1) (fun h => sT_sub h)
  | .slc a lo hi => prE (sE_slc (sndET a).1 (sndOC lo).1 (sndOC hi).1) (fun h => sT_slc h)
  | .bi f es => prE (sE_bi (sndSS es).1) (fun h => sT_bi h)
  | .lrev a => prE (sE_lrev (sndET a).1) (fun h => sT_lrev h)
  | .lrg a b => prE (sE_lrg (sndET a).1 (sndET b).1) (fun h => sT_lrg h)
  | .fls a => prE (sE_fls (sndET a).1) (fun h => sT_fls h)
  | .sset a => prE (sE_sset (sndET a).1) (fun h => sT_sset h)
  | .idx a b => prE (sE_idx (sndET a).1 (sndET b).1) (fun h => sT_idx h)
  | .u0 t => prE sE_u0 (fun h => sT_u0 h)
  | .u1 k a => prE (sE_u1 (sndET a).1) (fun h => sT_u1 h)
  | .u2 k a b => prE (sE_u2 (sndET a).1 (sndET b).1) (fun h => sT_u2 h)
  | .exIs i cs => prE sE_exIs (fun h => sT_exIs h)
  | .exAt i f => prE sE_exAt (fun h => sT_exAt h)
  | .dget a k d => prE (sE_dget (sndET a).1 (sndET k).1 (sndET d).1) (fun h => sT_dget h)
  | .isi a t => prE (sE_isi (sndET a).1) (fun h => sT_isi h)
  | .call j es ds fl => prE (sE_call (sndSS es).1) (fun h => sT_call h)
  | .callk j es a => prE (sE_callk (sndSS es).1 (sndET a).1) (fun h => sT_callk h)
  | .comp own e t it o => prE (sE_comp (sndET e).1 (sndI it) (sndOC o).2) (fun h => sT_comp h)
theorem sndSS : ∀ es : Es, SndF c n G es
  | .nil => ⟨sS_nil, sAnd_nil, sOr_nil, sAndT_nil, sOrT_nil⟩
  | .cons e es => have h := sndET e; have g := sndSS es; ⟨sS_cons h.1 g.1, and_of h.1 g.2.1, or_of h.1 g.2.2.1, andT_of h.2 g.2.2.2.1, orT_of h.2 g.2.2.2.2⟩
theorem sndOC : ∀ o : IO, SndO c n G o ∧ SndC c n G o
  | .none => ⟨sO_nil, sC_none⟩
  | .some e => have h := sndET e; ⟨sO_cons h.1, sC_some h.2⟩
theorem sndI : ∀ it : II, SndI c n G it
  | .ex e => sI_ex (sndET e).1
  | .rg1 a => sI_rg1 (sndET a).1
  | .rg2 a b => sI_rg2 (sndET a).1 (sndET b).1
  | .rg3 a b d => sI_rg3 (sndET a).1 (sndET b).1 (sndET d).1
  | .enum e => sI_enum (sndET e).1
  | .zip a b => sI_zip (sndET a).1 (sndET b).1
end
end
end PL

namespace PL
open L2 PyProof.Rows PySem.Spec PySem

/-- slots that may share with the value of e -/
def alE (c : Ck) (e : IE) : List Nat := if frE c e then eiE e else etE e ++ eiE e
def subL (a b : List Nat) : Bool := a.all fun i => b.contains i
/-- constants, none a list or a dict -/
def nlC : IE → Bool
  | .con d => !mutk d
  | _ => false
def nlS : Es → Bool
  | .nil => true
  | .cons e es => nlC e && nlS es
/-- never a list or a dict -/
def nlE : IE → Bool
  | .sub (.lst es) _ => nlS es
  | .con d => (match d with | .lst _ | .dK _ _ | .dT _ _ => false | _ => true)
  | .tup _ | .cmp _ _ _ | .cmp2 _ _ _ _ _ | .cmp3 _ _ _ _ _ _ _ | .not _ | .isi _ _ => true
  | _ => false
mutual
/-- control never falls out below -/
def endS : IS → Bool
  | .ret _ | .retN | .brk | .cont | .never | .rais _ _ _ => true
  | .ife _ a b => endSs a && endSs b
  | .tryx b _ _ h => endSs b && endSs h
  | _ => false
def endSs : Ss → Bool
  | .nil => false
  | .cons s ss => endS s || endSs ss
end
def joinO (a b : Ss) (x y : List Nat) : List Nat := if endSs a then y else if endSs b then x else x.filter fun i => y.contains i
def ownV (O : List Nat) : IE → Bool
  | .var i => O.contains i
  | _ => false
def dsj (O L : List Nat) : Bool := L.all fun i => !O.contains i
mutual
/-- nothing of O is assigned, or led to from elsewhere -/
def qS (c : Ck) (fr : Bool) (O : List Nat) : IS → Bool
  | .asg (.nm i) e => dsj O (i :: alE c e)
  | .asg (.tp ts) e => dsj O (tgtss ts ++ alE c e)
  | .ret e => !fr || (nlE e || frE c e)
  | .ife _ a b => qSs c fr O a && qSs c fr O b
  | .pass | .cont | .brk => true
  | _ => false
def qSs (c : Ck) (fr : Bool) (O : List Nat) : Ss → Bool
  | .nil => true
  | .cons s ss => qS c fr O s && qSs c fr O ss
end
mutual
def owS (c : Ck) (fr : Bool) (o : List Nat) : List Nat → IS → Option (List Nat)
  | O, .asg (.nm i) e => some (if frE c e then i :: offO O (i :: alE c e) else offO O (i :: alE c e))
  | O, .asg (.tp ts) e => some (offO O (tgtss ts ++ alE c e))
  | O, .par i j a b => some (offO O (i :: j :: (alE c a ++ alE c b)))
  | O, .aug i _ _ => some (offO O [i])
  | O, .sets x _ e => if O.contains x && !((alE c e).contains x) then some (offO O (alE c e)) else none
  | O, .augs x _ _ _ => if O.contains x then some O else none
  | O, .app x e => if O.contains x && !((alE c e).contains x) then some (offO O (alE c e)) else none
  | _, .ext _ _ => none
  | O, .ins x _ e => if O.contains x && !((alE c e).contains x) then some (offO O (alE c e)) else none
  | O, .clr x => if O.contains x then some O else none
  | O, .rev x => if O.contains x then some O else none
  | O, .pop x => if O.contains x then some O else none
  | O, .popAt x _ => if O.contains x then some O else none
  | O, .popSub y x _ => if O.contains x && !decide (x = y) then some (offO O [y]) else none
  | O, .popk y x _ => if O.contains x && !decide (x = y) then some (offO O [y]) else none
  | O, .setsl x _ _ e => if O.contains x && !((alE c e).contains x) then some (offO O (alE c e)) else none
  | O, .expr _ => some O
  | O, .ret e => if !fr || (nlE e || frE c e || ownV O e) then some O else none
  | O, .retN => some O
  | O, .ife _ a b => (owSs c fr o O a).bind fun x => (owSs c fr o O b).bind fun y => some (joinO a b x y)
  | O, .whl o' _ b => if subL o' O then (owSs c fr o' o' b).bind fun x => if subL o' x then some o' else none else none
  | O, .forr o' t it b => if subL o' (offO O (tgts t ++ (etI it ++ eiI it))) then (owSs c fr o' o' b).bind fun x => if subL o' x then some o' else none else none
  | O, .forq o' t it b => if subL o' (offO O (tgts t ++ eiI it)) && qSs c fr o' b then some o' else none
  | O, .brk => if subL o O then some O else none
  | O, .cont => if subL o O then some O else none
  | O, .pass => some O
  | O, .never => some O
  | O, .rais _ _ _ => some O
  | O, .tryx b _ i h => if (match i with | some i => O.contains i | none => false) then none else (owSs c fr o O b).bind fun x => (owSs { c with hot := true } fr o O h).bind fun y => some (offO (joinO b h x y) i.toList)
def owSs (c : Ck) (fr : Bool) (o : List Nat) : List Nat → Ss → Option (List Nat)
  | O, .nil => some O
  | O, .cons s ss => (owS c fr o O s).bind fun x => owSs c fr o x ss
end
theorem subL_ok {a b : List Nat} (h : subL a b = true) : ∀ i, i ∈ a → i ∈ b := fun i hi => List.contains_iff_mem.mp (List.all_eq_true.mp h i hi)

def Own (P : Nat → Option Addr) : AS := fun a => ∃ i, P i = some a
/-- what a stretch of code may do to cells -/
structure Stp (P : Nat → Option Addr) (H : Hp) (P' : Nat → Option Addr) (H' : Hp) : Prop where
  kp : Kp (Own P) H H'
  own : ∀ a, Own P' a → Own P a ∨ H a = none
theorem Stp.same {P : Nat → Option Addr} {H H' : Hp} (s : Same H H') : Stp P H P H' := ⟨Kp.of s, fun _ h => .inl h⟩
theorem Stp.trans {P P1 P2 : Nat → Option Addr} {H H1 H2 : Hp} (a : Stp P H P1 H1) (b : Stp P1 H1 P2 H2) : Stp P H P2 H2 := by
  refine ⟨fun x o n e => ?_, fun x h => ?_⟩
  · refine b.kp x o (fun z => ?_) (a.kp x o n e)
    rcases a.own x z with z | z
    · exact n z
    · rw [z] at e; cases e
  · rcases b.own x h with z | z
    · exact a.own x z
    · by_cases q : Own P x
      · exact .inl q
      · refine .inr ?_
        cases e : H x with
        | none => rfl
        | some o => rw [a.kp x o q e] at z; cases z
section
variable {K : PySem.W.Frag} {Mc M M' : AS} {H0 H H' H1 : Hp} {O O' : List Nat} {P P' : Nat → Option Addr} {r : En} {σ : L2.St}
theorem SR.congr (s : SR K Mc H0 O P r σ H) (h : ∀ i, i ∈ O ↔ i ∈ O') : SR K Mc H0 O' P r σ H :=
  ⟨s.same, s.mc, fun i a e => let ⟨a1, a2, a3, a4⟩ := s.new i a e; ⟨a1, a2, (h i).mp a3, a4⟩, s.inj, s.len, fun i d e => let ⟨v, a1, a2, a3⟩ := s.slot i d e; ⟨v, a1, a2, fun z => a3 ((h i).mpr z)⟩⟩
theorem Stp.off (L : List Nat) : Stp P H (offP P L) H := ⟨fun _ _ _ e => e, fun a ⟨i, e⟩ => .inl ⟨i, (offP_some e).2⟩⟩
/-- fewer own -/
theorem SR.only (s : SR K Mc H0 O P r σ H) (h : ∀ i, i ∈ O' → i ∈ O) : ∃ P', SR K Mc H0 O' P' r σ H ∧ Stp P H P' H := by
  refine ⟨_, (s.drop (O.filter fun i => !(O'.contains i))).congr fun i => ?_, Stp.off _⟩
  rw [mem_offO, List.mem_filter]
  constructor
  · rintro ⟨a, b⟩
    by_cases q : i ∈ O'
    · exact q
    · exact absurd ⟨a, by simp [q]⟩ b
  · intro a
    exact ⟨h i a, fun ⟨_, b⟩ => by simp [a] at b⟩
theorem mutk_lst {d : D} (h : mutk d = true) : (∃ ds, d = .lst ds) ∨ (∃ ks ds, d = .dK ks ds) ∨ ∃ ks ds, d = .dT ks ds := by
  cases d <;> first
    | exact .inl ⟨_, rfl⟩
    | exact .inr (.inl ⟨_, _, rfl⟩)
    | exact .inr (.inr ⟨_, _, rfl⟩)
    | cases h
/-- a new cell for a slot, nobody else knows it -/
theorem SR.own1 (s : SR K Mc H0 O P r σ H) (g : Same H H1) {i : Nat} {d : D} {a : Addr} {ob : HO} (hp : P i = none) (ho : i ∉ O) (hn : H a = none) (e1 : H1 a = some ob) (mk : MK ob)
    (hs : Slt K (fun b => MM Mc P [] b ∨ b = a) H1 (some a) d (.ref a)) :
    SR K Mc H0 (i :: O) (fun j => if j = i then some a else P j) (r.set i (some d)) (σ.set i (some (.ref a))) H1 ∧ Stp P H (fun j => if j = i then some a else P j) H1 := by
  have nP : ∀ j b, P j = some b → b ≠ a := fun j b e z => by
    obtain ⟨_, _, _, o', h4, _⟩ := s.new j b e
    rw [z, hn] at h4; cases h4
  have mm : ∀ b, MM Mc (fun j => if j = i then some a else P j) [] b → MM Mc P [] b ∨ b = a := fun b z => by
    rcases z with z | ⟨j, _, z⟩
    · exact .inl (.inl z)
    · have z : (if j = i then some a else P j) = some b := z
      by_cases q : j = i
      · rw [if_pos q] at z; exact .inr (Option.some.inj z).symm
      · rw [if_neg q] at z; exact .inl (.inr ⟨j, by simp, z⟩)
  have gg : Gr K (MM Mc P []) H (MM Mc (fun j => if j = i then some a else P j) []) H1 := (Gr.more fun b z => (mm b z).imp id fun e => by rw [e]; exact hn).trans (Gr.same g)
  refine ⟨⟨s.same.trans g, s.mc.same g, fun j b e => ?_, fun j k b e f => ?_, by rw [List.length_set, List.length_set]; exact s.len, fun j e q => ?_⟩, ⟨Kp.of g, fun b ⟨j, e⟩ => ?_⟩⟩
  · have e : (if j = i then some a else P j) = some b := e
    by_cases q : j = i
    · rw [if_pos q] at e
      cases e
      refine ⟨s.same.free hn, fun z => ?_, by rw [q]; exact List.mem_cons_self .., ob, e1, mk⟩
      obtain ⟨o', h4, _⟩ := s.mc _ z
      rw [hn] at h4; cases h4
    · rw [if_neg q] at e
      obtain ⟨h1, h2, h3, o', h4, h5⟩ := s.new j b e
      exact ⟨h1, h2, List.mem_cons_of_mem _ h3, o', g _ _ h4, h5⟩
  · have e : (if j = i then some a else P j) = some b := e
    have f : (if k = i then some a else P k) = some b := f
    by_cases q : j = i <;> by_cases q2 : k = i
    · rw [q, q2]
    · rw [if_pos q] at e; rw [if_neg q2] at f; cases e
      exact absurd rfl (nP k _ f)
    · rw [if_neg q] at e; rw [if_pos q2] at f; cases f
      exact absurd rfl (nP j _ e)
    · rw [if_neg q] at e; rw [if_neg q2] at f
      exact s.inj j k b e f
  · by_cases hj : i = j
    · subst hj
      have hl : i < r.length := by
        have := (List.getElem?_eq_some_iff.mp q).1
        rw [List.length_set] at this
        exact this
      rw [List.getElem?_set_self hl] at q
      cases q
      have ep : (if i = i then some a else P i) = some a := if_pos rfl
      refine ⟨.ref a, List.getElem?_set_self (by rw [s.len]; exact hl), by rw [ep]; exact hs.gr (Gr.less mm) (fun _ _ _ z => z), fun _ _ => ⟨a, ep⟩⟩
    · rw [List.getElem?_set_ne hj] at q
      obtain ⟨u, h1, h2, h3⟩ := s.slot j e q
      have ep : (if j = i then some a else P j) = P j := if_neg (Ne.symm hj)
      exact ⟨u, by rw [List.getElem?_set_ne hj]; exact h1, by rw [ep]; exact h2.gr gg (fun _ _ _ z => g _ _ z), fun z m => by
        rw [ep]
        exact h3 ((List.mem_cons.mp z).resolve_left (Ne.symm hj)) m⟩
  · have e : (if j = i then some a else P j) = some b := e
    by_cases q : j = i
    · rw [if_pos q] at e; cases e; exact .inr hn
    · rw [if_neg q] at e; exact .inl ⟨j, e⟩
/-- a value that is not to be changed into a slot of the own ones -/
theorem SR.setU (s : SR K Mc H0 O P r σ H) {i : Nat} {d : D} {v : V} (hp : P i = none) (hm : mutk d = false) (h : Rep K (MM Mc P []) H d v) (ho : i ∉ O) : SR K Mc H0 (i :: O) P (r.set i (some d)) (σ.set i (some v)) H := by
  have s' := s.set hp ho h
  refine ⟨s'.same, s'.mc, fun j a e => ?_, s'.inj, s'.len, fun j e q => ?_⟩
  · obtain ⟨h1, h2, h3, h4⟩ := s'.new j a e
    exact ⟨h1, h2, List.mem_cons_of_mem _ h3, h4⟩
  · obtain ⟨u, h1, h2, h3⟩ := s'.slot j e q
    refine ⟨u, h1, h2, fun z m => ?_⟩
    (rcases List.mem_cons.mp z with z | z)
    · subst z
      have hl : j < r.length := by
        have := (List.getElem?_eq_some_iff.mp q).1
        rw [List.length_set] at this
        exact this
      rw [List.getElem?_set_self hl] at q
      cases q
      rw [hm] at m; cases m
    · exact h3 z m
/-- what is new goes into a slot -/
theorem SR.own (s : SR K Mc H0 O P r σ H) (g : Same H H1) {i : Nat} {d : D} {v : V} (hp : P i = none) (ho : i ∉ O) (h : FrT K (MM Mc P []) H H1 d v) :
    ∃ P', SR K Mc H0 (i :: O) P' (r.set i (some d)) (σ.set i (some v)) H1 ∧ Stp P H P' H1 := by
  cases d <;> first
    | (obtain ⟨a, vs, e, h1, h2, h3⟩ := h; subst e; exact ⟨_, s.own1 g hp ho h1 h2 trivial ⟨rfl, vs, h2, h3⟩⟩)
    | (obtain ⟨a, vs, e, h1, h2, h4, h3⟩ := h; subst e; exact ⟨_, s.own1 g hp ho h1 h2 trivial ⟨rfl, vs, h2, h4, h3⟩⟩)
    | exact ⟨P, (s.grow g).setU hp rfl h ho, Stp.same g⟩
/-- an own list is written -/
theorem SR.write (s : SR K Mc H0 O P r σ H) {x : Nat} {p : Addr} {ds ds' : List D} {vs' : List V} (hp : P x = some p) (hr : r[x]? = some (some (.lst ds))) (h : Reps K (MM Mc P []) H ds' vs') :
    SR K Mc H0 O P (r.set x (some (.lst ds'))) σ (upd H p (.lst vs')) ∧ Stp P H P (upd H p (.lst vs')) := by
  obtain ⟨v, h1, h2, h3⟩ := s.slot x _ hr
  rw [hp] at h2
  obtain ⟨rfl, vs, h4, h5⟩ := h2
  have gw : Gr K (MM Mc P []) H (MM Mc P []) (upd H p (.lst vs')) := Gr.write (.inr ⟨x, by simp, hp⟩) h4 (fun _ z => nomatch z) fun _ _ z => nomatch z
  obtain ⟨n1, n2, n3, _⟩ := s.new x p hp
  refine ⟨⟨fun a o e => ?_, fun a z => ?_, fun i a e => ?_, s.inj, by rw [List.length_set]; exact s.len, fun j e q => ?_⟩, ⟨fun a o n e => ?_, fun a z => .inl z⟩⟩
  · rw [upd_ne (ne_of_none e n1)]; exact s.same _ _ e
  · obtain ⟨o, e, m⟩ := s.mc a z
    by_cases q : a = p
    · subst q; exact ⟨_, upd_same, trivial⟩
    · exact ⟨o, by rw [upd_ne q]; exact e, m⟩
  · obtain ⟨a1, a2, a3, o', a4, a5⟩ := s.new i a e
    by_cases q : a = p
    · subst q; exact ⟨a1, a2, a3, _, upd_same, trivial⟩
    · exact ⟨a1, a2, a3, o', by rw [upd_ne q]; exact a4, a5⟩
  · by_cases hj : x = j
    · subst hj
      have hl : x < r.length := (List.getElem?_eq_some_iff.mp hr).1
      rw [List.getElem?_set_self hl] at q
      cases q
      exact ⟨_, h1, by rw [hp]; exact ⟨rfl, vs', upd_same, Reps.gr gw _ _ h⟩, fun _ _ => ⟨p, hp⟩⟩
    · rw [List.getElem?_set_ne hj] at q
      obtain ⟨u, a1, a2, a3⟩ := s.slot j e q
      exact ⟨u, a1, a2.gr gw (fun a o z w => by
        have : a ≠ p := fun e => hj (s.inj x j p hp (by rw [z, e]))
        rw [upd_ne this]; exact w), a3⟩
  · rw [upd_ne (fun z => n ⟨x, by rw [z]; exact hp⟩)]; exact e
/-- an own slot's list -/
theorem SR.ownL (s : SR K Mc H0 O P r σ H) {x : Nat} {ds : List D} (ho : x ∈ O) (hr : r[x]? = some (some (.lst ds))) : ∃ p vs, P x = some p ∧ σ[x]? = some (some (.ref p)) ∧ H p = some (.lst vs) ∧ Reps K (MM Mc P []) H ds vs := by
  obtain ⟨v, h1, h2, h3⟩ := s.slot x _ hr
  obtain ⟨p, hp⟩ := h3 ho rfl
  rw [hp] at h2
  obtain ⟨rfl, vs, h4, h5⟩ := h2
  exact ⟨p, vs, hp, h1, h4, h5⟩
/-- an own thing is written, of whatever kind -/
theorem SR.writeG (s : SR K Mc H0 O P r σ H) {x : Nat} {p : Addr} {d d' : D} {o' : HO} (hp : P x = some p) (hr : r[x]? = some (some d)) (mk : MK o') (h : Slt K (MM Mc P []) (upd H p o') (some p) d' (.ref p)) :
    SR K Mc H0 O P (r.set x (some d')) σ (upd H p o') ∧ Stp P H P (upd H p o') := by
  obtain ⟨v, h1, h2, h3⟩ := s.slot x _ hr
  rw [hp] at h2
  have ev : v = .ref p := by cases d <;> first | exact h2.1 | exact h2.elim
  subst ev
  obtain ⟨n1, n2, n3, oo, e4, mo⟩ := s.new x p hp
  have gw : Gr K (MM Mc P []) H (MM Mc P []) (upd H p o') := Gr.write (.inr ⟨x, by simp, hp⟩) e4 (fun _ z => by rw [z] at mo; exact mo) fun _ _ z => by rw [z] at mo; exact mo
  refine ⟨⟨fun a o e => ?_, fun a z => ?_, fun i a e => ?_, s.inj, by rw [List.length_set]; exact s.len, fun j e q => ?_⟩, ⟨fun a o n e => ?_, fun a z => .inl z⟩⟩
  · rw [upd_ne (ne_of_none e n1)]; exact s.same _ _ e
  · obtain ⟨o, e, m⟩ := s.mc a z
    by_cases q : a = p
    · subst q; exact ⟨_, upd_same, mk⟩
    · exact ⟨o, by rw [upd_ne q]; exact e, m⟩
  · obtain ⟨a1, a2, a3, o2, a4, a5⟩ := s.new i a e
    by_cases q : a = p
    · subst q; exact ⟨a1, a2, a3, _, upd_same, mk⟩
    · exact ⟨a1, a2, a3, o2, by rw [upd_ne q]; exact a4, a5⟩
  · by_cases hj : x = j
    · subst hj
      have hl : x < r.length := (List.getElem?_eq_some_iff.mp hr).1
      rw [List.getElem?_set_self hl] at q
      cases q
      exact ⟨_, h1, by rw [hp]; exact h, fun _ _ => ⟨p, hp⟩⟩
    · rw [List.getElem?_set_ne hj] at q
      obtain ⟨u, a1, a2, a3⟩ := s.slot j e q
      exact ⟨u, a1, a2.gr gw (fun a o z w => by
        have : a ≠ p := fun e => hj (s.inj x j p hp (by rw [z, e]))
        rw [upd_ne this]; exact w), a3⟩
  · rw [upd_ne (fun z => n ⟨x, by rw [z]; exact hp⟩)]; exact e
/-- an own slot's thing -/
theorem SR.ownG (s : SR K Mc H0 O P r σ H) {x : Nat} {d : D} (ho : x ∈ O) (hr : r[x]? = some (some d)) (hm : mutk d = true) : ∃ p, P x = some p ∧ σ[x]? = some (some (.ref p)) ∧ Slt K (MM Mc P []) H (some p) d (.ref p) := by
  obtain ⟨v, h1, h2, h3⟩ := s.slot x _ hr
  obtain ⟨p, hp⟩ := h3 ho hm
  rw [hp] at h2
  have ev : v = .ref p := by cases d <;> first | exact h2.1 | exact h2.elim
  subst ev
  exact ⟨p, hp, h1, h2⟩
end
end PL

namespace PL
open L2 PyProof.Rows PySem.Spec PySem

def isComp : Expr → Bool
  | .ListComp _ _ _ _ | .SetComp _ _ _ _ | .DictComp _ _ _ _ _ => true
  | _ => false
def locC (sc : Scope) (x : Str) : Bool := match sc.names.lookup x with
  | some .local => true
  | some .cell => true
  | _ => false
def isStar : Expr → Bool
  | .Starred _ _ => true
  | _ => false
def parB (a b : Expr) : Bool := !isStar a && (!isStar b && (!([a, b].all (foldedForSure 8)) && !([a, b].all (constantsAlone 8))))
def ipB (o : Operator) : Bool := decide (o = .Add) || decide (o = .Sub)
def shAsgN : Stmt → Option (Str × Pos × Expr × Pos)
  | .Assign [.Name y py] v pos => some (y, py, v, pos)
  | _ => none
theorem shAsgN_ok {a : Stmt} {y : _} {py : _} {v : _} {pos : _} (h : shAsgN a = some (y, py, v, pos)) : a = .Assign [.Name y py] v pos := by
  unfold shAsgN at h
  split at h
  · cases h; rfl
  · cases h
def shAsg : Stmt → Option (Expr × Expr × Pos)
  | .Assign [tg] v pos => some (tg, v, pos)
  | _ => none
theorem shAsg_ok {a : Stmt} {tg : _} {v : _} {pos : _} (h : shAsg a = some (tg, v, pos)) : a = .Assign [tg] v pos := by
  unfold shAsg at h
  split at h
  · cases h; rfl
  · cases h
def shPar : Stmt → Option ((Str × Pos × Str × Pos) × (Nat × Pos) × (Expr × Expr) × (Nat × Pos) × Pos)
  | .Assign [.Tuple [.Name x px, .Name y py] kt pt] (.Tuple [u, v] k2 pt2) pos => some ((x, px, y, py), (kt, pt), (u, v), (k2, pt2), pos)
  | _ => none
theorem shPar_ok {a : Stmt} {x : _} {px : _} {y : _} {py : _} {kt : _} {pt : _} {u : _} {v : _} {k2 : _} {pt2 : _} {pos : _} (h : shPar a = some ((x, px, y, py), (kt, pt), (u, v), (k2, pt2), pos)) : a = .Assign [.Tuple [.Name x px, .Name y py] kt pt] (.Tuple [u, v] k2 pt2) pos := by
  unfold shPar at h
  split at h
  · cases h; rfl
  · cases h
def shAugN : Stmt → Option (Str × Pos × Operator × Expr × Pos)
  | .AugAssign (.Name y yp) op v pos => some (y, yp, op, v, pos)
  | _ => none
theorem shAugN_ok {a : Stmt} {y : _} {yp : _} {op : _} {v : _} {pos : _} (h : shAugN a = some (y, yp, op, v, pos)) : a = .AugAssign (.Name y yp) op v pos := by
  unfold shAugN at h
  split at h
  · cases h; rfl
  · cases h
def shSet : Stmt → Option (Str × Pos × Expr × Pos × Expr × Pos)
  | .Assign [.Subscript (.Name y yp) ix ps] v pos => some (y, yp, ix, ps, v, pos)
  | _ => none
theorem shSet_ok {a : Stmt} {y : _} {yp : _} {ix : _} {ps : _} {v : _} {pos : _} (h : shSet a = some (y, yp, ix, ps, v, pos)) : a = .Assign [.Subscript (.Name y yp) ix ps] v pos := by
  unfold shSet at h
  split at h
  · cases h; rfl
  · cases h
def shAugS : Stmt → Option (Str × Pos × Expr × Pos × Operator × Expr × Pos)
  | .AugAssign (.Subscript (.Name y yp) ix ps) op v pos => some (y, yp, ix, ps, op, v, pos)
  | _ => none
theorem shAugS_ok {a : Stmt} {y : _} {yp : _} {ix : _} {ps : _} {op : _} {v : _} {pos : _} (h : shAugS a = some (y, yp, ix, ps, op, v, pos)) : a = .AugAssign (.Subscript (.Name y yp) ix ps) op v pos := by
  unfold shAugS at h
  split at h
  · cases h; rfl
  · cases h
def shM0 : Stmt → Option (Str × Pos × Str × Pos × Pos × Pos)
  | .Expr (.Call (.Attribute (.Name y yp) m apos) [] [] cpos) pos => some (y, yp, m, apos, cpos, pos)
  | _ => none
theorem shM0_ok {a : Stmt} {y : _} {yp : _} {m : _} {apos : _} {cpos : _} {pos : _} (h : shM0 a = some (y, yp, m, apos, cpos, pos)) : a = .Expr (.Call (.Attribute (.Name y yp) m apos) [] [] cpos) pos := by
  unfold shM0 at h
  split at h
  · cases h; rfl
  · cases h
def shSl : Stmt → Option ((Str × Pos) × (Expr × Expr × Pos × Pos) × Expr × Pos)
  | .Assign [.Subscript (.Name y yp) (.Slice (some lo) (some hi) none p2) ps] v pos => some ((y, yp), (lo, hi, p2, ps), v, pos)
  | _ => none
theorem shSl_ok {a : Stmt} {y : _} {yp : _} {lo : _} {hi : _} {p2 : _} {ps : _} {v : _} {pos : _} (h : shSl a = some ((y, yp), (lo, hi, p2, ps), v, pos)) : a = .Assign [.Subscript (.Name y yp) (.Slice (some lo) (some hi) none p2) ps] v pos := by
  unfold shSl at h
  split at h
  · cases h; rfl
  · cases h
def isCon : IE → Bool
  | .con (.int _) => true
  | _ => false
def shPS : Stmt → Option ((Str × Pos) × (Str × Pos × Str × Pos × Pos) × Expr × Pos × Pos)
  | .Assign [.Name z pz] (.Subscript (.Call (.Attribute (.Name y yp) m apos) [] [] cpos) ix ps) pos => some ((z, pz), (y, yp, m, apos, cpos), ix, ps, pos)
  | _ => none
theorem shPS_ok {a : Stmt} {z : _} {pz : _} {y : _} {yp : _} {m : _} {apos : _} {cpos : _} {ix : _} {ps : _} {pos : _} (h : shPS a = some ((z, pz), (y, yp, m, apos, cpos), ix, ps, pos)) : a = .Assign [.Name z pz] (.Subscript (.Call (.Attribute (.Name y yp) m apos) [] [] cpos) ix ps) pos := by
  unfold shPS at h
  split at h
  · cases h; rfl
  · cases h
def shPk : Stmt → Option ((Str × Pos) × (Str × Pos × Str × Pos × Pos) × Expr × Pos)
  | .Assign [.Name z pz] (.Call (.Attribute (.Name y yp) m apos) [k] [] cpos) pos => some ((z, pz), (y, yp, m, apos, cpos), k, pos)
  | _ => none
theorem shPk_ok {a : Stmt} {z : _} {pz : _} {y : _} {yp : _} {m : _} {apos : _} {cpos : _} {k : _} {pos : _} (h : shPk a = some ((z, pz), (y, yp, m, apos, cpos), k, pos)) : a = .Assign [.Name z pz] (.Call (.Attribute (.Name y yp) m apos) [k] [] cpos) pos := by
  unfold shPk at h
  split at h
  · cases h; rfl
  · cases h
def shM1 : Stmt → Option (Str × Pos × Str × Pos × Expr × Pos × Pos)
  | .Expr (.Call (.Attribute (.Name y yp) m apos) [v] [] cpos) pos => some (y, yp, m, apos, v, cpos, pos)
  | _ => none
theorem shM1_ok {a : Stmt} {y : _} {yp : _} {m : _} {apos : _} {v : _} {cpos : _} {pos : _} (h : shM1 a = some (y, yp, m, apos, v, cpos, pos)) : a = .Expr (.Call (.Attribute (.Name y yp) m apos) [v] [] cpos) pos := by
  unfold shM1 at h
  split at h
  · cases h; rfl
  · cases h
def shM2 : Stmt → Option (Str × Pos × Str × Pos × Expr × Expr × Pos × Pos)
  | .Expr (.Call (.Attribute (.Name y yp) m apos) [u, v] [] cpos) pos => some (y, yp, m, apos, u, v, cpos, pos)
  | _ => none
theorem shM2_ok {a : Stmt} {y : _} {yp : _} {m : _} {apos : _} {u : _} {v : _} {cpos : _} {pos : _} (h : shM2 a = some (y, yp, m, apos, u, v, cpos, pos)) : a = .Expr (.Call (.Attribute (.Name y yp) m apos) [u, v] [] cpos) pos := by
  unfold shM2 at h
  split at h
  · cases h; rfl
  · cases h
def shExpr : Stmt → Option (Expr × Pos)
  | .Expr v pos => some (v, pos)
  | _ => none
theorem shExpr_ok {a : Stmt} {v : _} {pos : _} (h : shExpr a = some (v, pos)) : a = .Expr v pos := by
  unfold shExpr at h
  split at h
  · cases h; rfl
  · cases h
def shRet : Stmt → Option (Expr × Pos)
  | .Return (some v) pos => some (v, pos)
  | _ => none
theorem shRet_ok {a : Stmt} {v : _} {pos : _} (h : shRet a = some (v, pos)) : a = .Return (some v) pos := by
  unfold shRet at h
  split at h
  · cases h; rfl
  · cases h
def shRetN : Stmt → Option (Pos)
  | .Return none pos => some pos
  | _ => none
theorem shRetN_ok {a : Stmt} {pos : _} (h : shRetN a = some pos) : a = .Return none pos := by
  unfold shRetN at h
  split at h
  · cases h; rfl
  · cases h
def shIf : Stmt → Option (Expr × List Stmt × List Stmt × Pos)
  | .If t' a' b' pos => some (t', a', b', pos)
  | _ => none
theorem shIf_ok {a : Stmt} {t' : _} {a' : _} {b' : _} {pos : _} (h : shIf a = some (t', a', b', pos)) : a = .If t' a' b' pos := by
  unfold shIf at h
  split at h
  · cases h; rfl
  · cases h
def shWhl : Stmt → Option (Expr × List Stmt × Pos)
  | .While t' b' [] pos => some (t', b', pos)
  | _ => none
theorem shWhl_ok {a : Stmt} {t' : _} {b' : _} {pos : _} (h : shWhl a = some (t', b', pos)) : a = .While t' b' [] pos := by
  unfold shWhl at h
  split at h
  · cases h; rfl
  · cases h
def shFor : Stmt → Option (Expr × Expr × List Stmt × Pos)
  | .For tg iter b' [] pos => some (tg, iter, b', pos)
  | _ => none
theorem shFor_ok {a : Stmt} {tg : _} {iter : _} {b' : _} {pos : _} (h : shFor a = some (tg, iter, b', pos)) : a = .For tg iter b' [] pos := by
  unfold shFor at h
  split at h
  · cases h; rfl
  · cases h
def shBrk : Stmt → Option (Pos)
  | .Break pos => some pos
  | _ => none
theorem shBrk_ok {a : Stmt} {pos : _} (h : shBrk a = some pos) : a = .Break pos := by
  unfold shBrk at h
  split at h
  · cases h; rfl
  · cases h
def shCont : Stmt → Option (Pos)
  | .Continue pos => some pos
  | _ => none
theorem shCont_ok {a : Stmt} {pos : _} (h : shCont a = some pos) : a = .Continue pos := by
  unfold shCont at h
  split at h
  · cases h; rfl
  · cases h
def shPass : Stmt → Option (Pos)
  | .Pass pos => some pos
  | _ => none
theorem shPass_ok {a : Stmt} {pos : _} (h : shPass a = some pos) : a = .Pass pos := by
  unfold shPass at h
  split at h
  · cases h; rfl
  · cases h
/-- raise C(..) -/
def shRaise : Stmt → Option (Str × Pos × List Expr × Pos × Pos)
  | .Raise (some (.Call (.Name x p1) l [] p)) none pos => some (x, p1, l, p, pos)
  | _ => none
theorem shRaise_ok {a : Stmt} {x : Str} {p1 p pos : Pos} {l : List Expr} (h : shRaise a = some (x, p1, l, p, pos)) : a = .Raise (some (.Call (.Name x p1) l [] p)) none pos := by
  unfold shRaise at h
  split at h
  · cases h; rfl
  · cases h
/-- try: .. except C (as n): .. -/
def shTry : Stmt → Option (List Stmt × (Str × Pos) × Option Str × Stmt × List Stmt × Pos × Pos)
  | .Try b [.ExceptHandler (some (.Name x p1)) n (b0 :: l) p2] [] [] pos => some (b, (x, p1), n, b0, l, p2, pos)
  | _ => none
theorem shTry_ok {a b0 : Stmt} {b l : List Stmt} {x : Str} {n : Option Str} {p1 p2 pos : Pos} (h : shTry a = some (b, (x, p1), n, b0, l, p2, pos)) : a = .Try b [.ExceptHandler (some (.Name x p1)) n (b0 :: l) p2] [] [] pos := by
  unfold shTry at h
  split at h
  · cases h; rfl
  · cases h
/-- what an exception is made with: a text, or the field's value -/
def raisA (c : Ck) (N : List Str) (sc : Scope) (f : Option Str) (e : IE) : List Expr → Bool
  | [a] => (match f, e, a with
    | none, .con (.str m), .Constant (.str m') _ _ => decide (m = m')
    | some _, e, a => ckE c N sc e a
    | _, _, _ => false)
  | _ => false
def tnB (N : List Str) (sc : Scope) : Option Nat → Option Str → Bool
  | some i, some n => decide (N[i]? = some n) && decide (sc.names.lookup n = some .local)
  | _, _ => false
mutual
/-- one statement, or a choice of such -/
def tryS : IS → Bool
  | .asg (.nm _) _ => true
  | .expr _ => true
  | .ret _ => true
  | .ife _ a b => tryB a && tryB b
  | _ => false
def tryB : Ss → Bool
  | .nil => true
  | .cons s ss => tryS s && (match ss with | .nil => true | _ => false)
end
mutual
def ckX (c : Ck) (N : List Str) (sc : Scope) : IS → Stmt → Bool
  | .asg (.nm i) e, a => (match shAsgN a with | some (y, _, v, _) => decide (N[i]? = some y) && (locC sc y && ckE c N sc e v) | none => false)
  | .asg (.tp ts) e, a => (match shAsg a with | some (tg, v, _) => !c.hot && (ckT N sc (.tp ts) tg && (!isTup v && ckE c N sc e v)) | none => false)
  | .par i j a b, st => (match shPar st with | some ((x, px, y, py), _, (u, v), _, _) => !c.hot && (decide (N[i]? = some x) && (decide (N[j]? = some y) && (decide (i ≠ j) && (decide (x ≠ y) && (decide (px.line = py.line) && (decide (sc.names.lookup x = some .local) &&
      (decide (sc.names.lookup y = some .local) && (parB u v && (ckE c N sc a u && ckE c N sc b v))))))))) | none => false)
  | .aug i o e, a => (match shAugN a with | some (y, _, op, v, _) => decide (o = op) && (ipB o && (decide (N[i]? = some y) && (locC sc y && ckE c N sc e v))) | none => false)
  | .sets x i e, a => (match shSet a with | some (y, _, ix, _, v, _) => decide (N[x]? = some y) && ((visB sc y && nmB y) && (ckE c N sc i ix && ckE c N sc e v)) | none => false)
  | .augs x i o e, a => (match shAugS a with | some (y, _, ix, _, op, v, _) => decide (o = op) && (ipB o && (decide (N[x]? = some y) && ((visB sc y && nmB y) && (ckE c N sc i ix && ckE c N sc e v)))) | none => false)
  | .app x e, a => (match shM1 a with | some (y, _, m, apos, v, cpos, _) => decide (m = "append") && ((apos.endLine == cpos.line) && (decide (N[x]? = some y) && ((visB sc y && nmB y) && ckE c N sc e v))) | none => false)
  | .ins x i e, a => (match shM2 a with | some (y, _, m, apos, u, v, cpos, _) => decide (m = "insert") && ((apos.endLine == cpos.line) && (decide (N[x]? = some y) && ((visB sc y && nmB y) && (ckE c N sc i u && ckE c N sc e v)))) | none => false)
  | .clr x, a => (match shM0 a with | some (y, _, m, apos, cpos, _) => decide (m = "clear") && ((apos.endLine == cpos.line) && (decide (N[x]? = some y) && (visB sc y && nmB y))) | none => false)
  | .rev x, a => (match shM0 a with | some (y, _, m, apos, cpos, _) => decide (m = "reverse") && ((apos.endLine == cpos.line) && (decide (N[x]? = some y) && (visB sc y && nmB y))) | none => false)
  | .pop x, a => (match shM0 a with | some (y, _, m, apos, cpos, _) => decide (m = "pop") && ((apos.endLine == cpos.line) && (decide (N[x]? = some y) && (visB sc y && nmB y))) | none => false)
  | .popAt x i, a => (match shM1 a with | some (y, _, m, apos, v, cpos, _) => decide (m = "pop") && ((apos.endLine == cpos.line) && (decide (N[x]? = some y) && ((visB sc y && nmB y) && ckE c N sc i v))) | none => false)
  | .setsl x lo hi e, a => (match shSl a with | some ((y, _), (l, u, _, _), v, _) => decide (N[x]? = some y) && ((visB sc y && nmB y) && (frE c e && (ckE c N sc lo l && (ckE c N sc hi u && ckE c N sc e v)))) | none => false)
  | .expr e, a => (match shExpr a with | some (v, _) => !isComp v && ckE c N sc e v | none => false)
  | .ret e, a => (match shRet a with | some (v, _) => ckE c N sc e v | none => false)
  | .retN, a => (shRetN a).isSome
  | .ife t a b, st => (match shIf st with | some (t', a', b', _) => ckE c N sc t t' && (ckXs c N sc a a' && ckXs c N sc b b') | none => false)
  | .whl _ t b, st => (match shWhl st with | some (t', b', _) => ckE c N sc t t' && ckXs c N sc b b' | none => false)
  | .forr _ t it b, st => (match shFor st with | some (tg, iter, b', _) => !c.hot && (ckT N sc t tg && (ckI c N sc it iter (isTup tg) && ckXs c N sc b b')) | none => false)
  | .forq _ t it b, st => (match shFor st with | some (tg, iter, b', _) => !c.hot && (ckT N sc t tg && (ckI c N sc it iter (isTup tg) && ckXs c N sc b b')) | none => false)
  | .brk, a => (shBrk a).isSome
  | .cont, a => (shCont a).isSome
  | .pass, a => (shPass a).isSome
  | .never, _ => true
  | .rais x f e, st => (match shRaise st with | some (y, _, l, _, _) => !c.hot && (decide (x = y) && (glB sc x && (nmB x && (c.xc.contains (x, f) && raisA c N sc f e l)))) | none => false)
  | .tryx b x i h, st => (match shTry st with
    | some (bl, (y, _), nm, b0, l, _) => !c.hot && (clsN c sc x && (decide (x = y) && (tryB b && (ckXs c N sc b bl && (ckXs { c with hot := true } N sc h (b0 :: l) && tnB N sc i nm)))))
    | none => false)
  | .ext _ _, _ => false
  | .popk y x k, a => (match shPk a with | some ((z, _), (w, _, m, apos, cpos), q, _) => decide (m = "pop") && ((apos.endLine == cpos.line) && (decide (N[x]? = some w) && ((visB sc w && nmB w) && (decide (N[y]? = some z) && (locC sc z && ckE c N sc k q))))) | none => false)
  | .popSub y x i, a => (match shPS a with | some ((z, _), (w, _, m, apos, cpos), ix, _, _) => decide (m = "pop") && ((apos.endLine == cpos.line) && (decide (N[x]? = some w) && ((visB sc w && nmB w) && (decide (N[y]? = some z) && (locC sc z && (isCon i && ckE c N sc i ix)))))) | none => false)
def ckXs (c : Ck) (N : List Str) (sc : Scope) : Ss → List Stmt → Bool
  | .nil, [] => true
  | .cons s ss, a :: l => ckX c N sc s a && ckXs c N sc ss l
  | _, _ => false
end

section
variable {a : Expr} {t : Option Expr} {l : Nat} {env : Env}
theorem sw_no (h : isComp a = false) : swapsWith a t l env = pure false := by cases a <;> first | rfl | cases h
theorem sw_tup {es : List Expr} {k : Nat} {p : Pos} : swapsWith a (some (.Tuple es k p)) l env = pure false := by cases a <;> rfl
theorem sw_sub {x y : Expr} {p : Pos} : swapsWith a (some (.Subscript x y p)) l env = pure false := by cases a <;> rfl
theorem st_sub {x y : Expr} {p : Pos} : swappedStores [.Subscript x y p] a env = pure none := by cases a <;> rfl
theorem st_tup {es : List Expr} {k : Nat} {p : Pos} (h : isTup a = false) : swappedStores [.Tuple es k p] a env = pure none := by cases a <;> first | rfl | cases h
/-- a list display assigned to a name on one line -/
def swB (sc : Scope) (y : Str) (py pos : Pos) (scope : Scope) : Bool :=
  (sc.kind == .function) && (sc.names.lookup y == some .local) && (py.line == pos.line) && !(scope.names.any fun (n, k) => n == y && (k == .local || k == .cell))
theorem sw_lc {elt : Expr} {gs : List Comprehension} {scope : Scope} {pos py : Pos} {y : Str} {sc : Scope} (hs : env.scope = sc) (hk : sc.kind = .function) : swapsWith (.ListComp elt gs scope pos) (some (.Name y py)) l env = pure (swB sc y py pos scope) := by
  subst hs
  (have hb : env.blockKind = .function := by unfold Env.blockKind; rw [hk]; rfl)
  unfold swapsWith swB
  simp only [hb, hk, Expr.pos]
  rfl
theorem swB_loc {sc : Scope} {y : Str} {py pos : Pos} {scope : Scope} (h : swB sc y py pos scope = true) : sc.names.lookup y = some .local := by
  unfold swB at h
  (simp only [Bool.and_eq_true] at h)
  exact eq_of_beq h.1.1.2
theorem noStar : ∀ u : Expr, isStar u = false → (match u with | .Starred .. => true | _ => false) = false := fun u h => by cases u <;> first | rfl | cases h
theorem st_par {x y : Str} {px py pt : Pos} {kt k2 : Nat} {pt2 : Pos} {u v : Expr} {sc : Scope} (hs : env.scope = sc) (hk : sc.kind = .function) (hx : sc.names.lookup x = some .local) (hy : sc.names.lookup y = some .local) (hl : px.line = py.line) (hn : x ≠ y) (hp : parB u v = true) :
    swappedStores [.Tuple [.Name x px, .Name y py] kt pt] (.Tuple [u, v] k2 pt2) env = pure (some [x, y]) := by
  subst hs
  (have hb : env.blockKind = .function := by unfold Env.blockKind; rw [hk]; rfl)
  have kx : (env.kindOf x == some .local) = true := by show (env.scope.names.lookup x == _) = true; rw [hx]; rfl
  have ky : (env.kindOf y == some .local) = true := by show (env.scope.names.lookup y == _) = true; rw [hy]; rfl
  unfold parB at hp
  simp only [Bool.and_eq_true, Bool.not_eq_true'] at hp
  obtain ⟨h1, h2, h3, h4⟩ := hp
  have lx : ((px.line == px.line) = true) := beq_self_eq_true _
  have ly : ((py.line == px.line) = true) := by rw [hl]; exact beq_self_eq_true _
  have nd : ([x, y] : List Str).eraseDups = [x, y] := by
    have : (y == x) = false := by
      cases q : y == x with
      | false => rfl
      | true => exact absurd (eq_of_beq q).symm hn
    simp [List.eraseDups_cons, this]
  have e1 := noStar u h1
  have e2 := noStar v h2
  have kx2 : env.kindOf x = some .local := hx
  have ky2 : env.kindOf y = some .local := hy
  unfold swappedStores
  simp [List.filterMap, kx2, ky2, hb, e1, e2, kx, ky, lx, ly, nd, h3, h4, Expr.pos]
  intro h
  rcases h with h | h
  · exact Bool.noConfusion (h.symm.trans e1)
  · exact Bool.noConfusion (h.symm.trans e2)
end
end PL

namespace PL
open L2 PyProof.Rows PySem.Spec PySem

structure SXs (c : Ck) (T : List (Str × D)) (n : Nat) (G : Ga) (W : WX) (sc : Scope) (X : Cx) : Prop extends SX c T n G W sc X where
  kind : sc.kind = .function
  fnT : ∀ x, X.fn x = true
  pass : PassesOwn (model X.prog X.w) X.A X.env X.xe
  stk : X.stack = X.env :: X.outer
  frm : X.env.frame = some X.env.locals
def FlQ (K : PySem.W.Frag) (fr : Bool) (Mc : AS) (H0 : Hp) (o O' : List Nat) (P : Nat → Option Addr) (H : Hp) (D : Ends) : Fl → Prop
  | .nx r => ∀ P' σ' H', SR K Mc H0 O' P' r σ' H' → Stp P H P' H' → D.nx σ' H'
  | .bk r => ∀ P' σ' H', SR K Mc H0 o P' r σ' H' → Stp P H P' H' → D.bk σ' H'
  | .ct r => ∀ P' σ' H', SR K Mc H0 o P' r σ' H' → Stp P H P' H' → D.ct σ' H'
  | .rt d => ∀ v H', Same H0 H' → Res K fr Mc Mc H0 H' d v → D.rt v H'
def exS (xl : List (Str × Option Str)) (K : PySem.W.Frag) (W : WX) (H0 : Hp) : D → Prop := fun x => ∀ σ' H' cls dx, Same H0 H' → XR xl K x cls dx H' → W cls dx σ' H'
theorem exS.e {xl : List (Str × Option Str)} {K : PySem.W.Frag} {W : WX} {H0 H : Hp} {σ : L2.St} {x : D} (s : Same H0 H) (h : exS xl K W H0 x) : exE xl K W σ H x := fun H' cls dx s' q => h σ H' cls dx (s.trans s') q
abbrev SndX (c : Ck) (n : Nat) (G : Ga) (fr : Bool) (s : IS) : Prop := ∀ {T : List (Str × PL.D)} {W : WX} {sc : Scope} {X : Cx} {a : Stmt} {o O O' : List Nat}, SXs c T n G W sc X → ckX c X.N sc s a = true → owS c fr o O s = some O' →
  ∀ {Mc : AS} {H0 H : Hp} {P : Nat → Option Addr} {r : En} {σ : L2.St}, SR X.K Mc H0 O P r σ H → ∀ {D : Ends}, Sat (evS T G s r) (FlQ X.K fr Mc H0 o O' P H D) (exS c.xc X.K W H0) → WS X a D σ H
abbrev SndY (c : Ck) (n : Nat) (G : Ga) (fr : Bool) (s : IS) : Prop := ∀ {T : List (Str × PL.D)} {W : WX} {sc : Scope} {X : Cx} {a : Stmt} {o O O' : List Nat}, SXs c T n G W sc X → ckX c X.N sc s a = true → owS c fr o O s = some O' →
  ∀ {Mc : AS} {H0 H : Hp} {P : Nat → Option Addr} {r : En} {σ : L2.St}, SR X.K Mc H0 O P r σ H → ∀ {D : Ends}, Sat (evS T G s r) (FlQ X.K fr Mc H0 o O' P H D) (exE c.xc X.K W σ H) → WS X a D σ H
theorem SndY.x {c : Ck} {n : Nat} {G : Ga} {fr : Bool} {s : IS} (h : SndY c n G fr s) : SndX c n G fr s := fun {_ _ _ _ _ _ _ _} hx hc how {_ _ _ _ _ _} hs {_} q => h hx hc how hs (Sat.mono q (fun _ _ z => z) fun _ hz => hz.e hs.same)
abbrev SndXs (c : Ck) (n : Nat) (G : Ga) (fr : Bool) (s : Ss) : Prop := ∀ {T : List (Str × PL.D)} {W : WX} {sc : Scope} {X : Cx} {a : List Stmt} {o O O' : List Nat}, SXs c T n G W sc X → ckXs c X.N sc s a = true → owSs c fr o O s = some O' →
  ∀ {Mc : AS} {H0 H : Hp} {P : Nat → Option Addr} {r : En} {σ : L2.St}, SR X.K Mc H0 O P r σ H → ∀ {D : Ends}, Sat (evSs T G s r) (FlQ X.K fr Mc H0 o O' P H D) (exS c.xc X.K W H0) → WSs X a D σ H
mutual
theorem asgT_ex : ∀ {t : IT} {d : D} {r : En} {z : D}, asgT t d r = .ex z → False
  | .nm i, d, r, z, h => by have h : R.ok (r.set i (some d)) = .ex z := h; cases h
  | .tp ts, .tup ds, r, z, h => asgTs_ex (ts := ts) (ds := ds) h
  | .tp ts, .lst ds, r, z, h => asgTs_ex (ts := ts) (ds := ds) h
  | .tp _, .non, _, _, h => by cases h
  | .tp _, .bl _, _, _, h => by cases h
  | .tp _, .int _, _, _, h => by cases h
  | .tp _, .str _, _, _, h => by cases h
  | .tp _, .dK _ _, _, _, h => by cases h
  | .tp _, .dT _ _, _, _, h => by cases h
  | .tp _, .ex _ _, _, _, h => by cases h
theorem asgTs_ex : ∀ {ts : Ts} {ds : List D} {r : En} {z : D}, asgTs ts ds r = .ex z → False
  | .nil, [], r, z, h => by cases h
  | .nil, _ :: _, _, _, h => by cases h
  | .cons _ _, [], _, _, h => by cases h
  | .cons t ts, d :: ds, r, z, h => by
    have h : ((asgT t d r).bind fun r1 => asgTs ts ds r1) = .ex z := h
    cases q : asgT t d r with
    | no => rw [q] at h; cases h
    | ex y => exact asgT_ex q
    | ok r1 =>
      rw [q] at h
      exact asgTs_ex (ts := ts) (ds := ds) h
end
section
variable {K : PySem.W.Frag} {Mc : AS} {H0 H H1 : Hp} {O : List Nat} {P : Nat → Option Addr} {r : En} {σ : L2.St} {c : Ck} {e : IE} {d : D} {v : V}
/-- a value in a state without the slots it may share with -/
theorem SR.al (s : SR K Mc H0 O P r σ H) (g : Same H H1) {L : List Nat} (hL : ∀ i, i ∈ alE c e → i ∈ L) (q : Res K (frE c e) (MM Mc P (etE e)) (MM Mc P (eiE e)) H H1 d v) : Rep K (MM Mc (offP P L) []) H1 d v := by
  unfold Res at q
  unfold alE at hL
  split at q
  · rename_i f
    rw [if_pos f] at hL
    exact Rep.less (MM.off hL) (FrT.repT (s.trk (eiE e)) q).rep
  · rename_i f
    rw [if_neg f] at hL
    exact (RepT.less (MM.off fun i hi => hL i (List.mem_append_left _ hi)) (MM.off fun i hi => hL i (List.mem_append_right _ hi)) q).rep
theorem asg_fin {X : Cx} {fr : Bool} {o O' : List Nat} {i : Nat} {D : Ends} (s : SR K Mc H0 O P r σ H) (g : Same H H1) (q : Res K (frE c e) (MM Mc P (etE e)) (MM Mc P (eiE e)) H H1 d v) (how : owS c fr o O (.asg (.nm i) e) = some O')
    (h : FlQ K fr Mc H0 o O' P H D (.nx (r.set i (some d)))) : D.nx (σ.set i (some v)) H1 := by
  have how : some (if frE c e then i :: offO O (i :: alE c e) else offO O (i :: alE c e)) = some O' := how
  have s2 := s.drop (i :: alE c e)
  have pi : offP P (i :: alE c e) i = none := if_pos (List.mem_cons_self ..)
  have oi : i ∉ offO O (i :: alE c e) := fun z => (mem_offO.mp z).2 (List.mem_cons_self ..)
  have rp := s.al (c := c) g (L := i :: alE c e) (fun j hj => List.mem_cons_of_mem _ hj) q
  cases f : frE c e with
  | false =>
    rw [f] at how
    cases how
    exact h _ _ _ ((s2.grow g).set pi oi rp) ((Stp.off _).trans (Stp.same g))
  | true =>
    rw [f] at how q
    cases how
    have q : FrT K (MM Mc P (eiE e)) H H1 d v := q
    have ea : alE c e = eiE e := by unfold alE; rw [if_pos f]
    obtain ⟨P', s3, st⟩ := s2.own g pi oi (q.less (MM.off fun j hj => List.mem_cons_of_mem _ (by rw [ea]; exact hj)))
    exact h _ _ _ s3 ((Stp.off _).trans st)
end
section
variable {c : Ck} {n : Nat} {G : Ga} {fr : Bool}
theorem locC_ok {X : Cx} {sc : Scope} {x : Str} (hs : X.env.scope = sc) (h : locC sc x = true) : Loc X.env.scope x := by
  rw [hs]
  unfold locC at h
  split at h
  · rename_i e; exact .inl e
  · rename_i e; exact .inr e
  · cases h
theorem comp_of {N : List Str} {sc : Scope} {e : IE} {v : Expr} (h : ckE c N sc e v = true) (hv : isComp v = true) : ∃ own e' t it o2, e = .comp own e' t it o2 := by
  cases v <;> first
    | exact Bool.noConfusion hv
    | (cases e with
      | u1 k a => cases k <;> exact Bool.noConfusion h
      | u2 k a b => cases k <;> exact Bool.noConfusion h
      | comp a b c d e => exact ⟨_, _, _, _, _, rfl⟩
      | _ => exact Bool.noConfusion h)
theorem sY_asgN {i : Nat} {e : IE} : SndY c n G fr (.asg (.nm i) e) := by
  intro T W sc X a o O O' hx hc how Mc H0 H P r σ hs D h
  have hc : (match shAsgN a with | some (y, py, v, pos) => (decide (X.N[i]? = some y) && (locC sc y && ckE c X.N sc e v)) | none => false) = true := hc
  cases es : shAsgN a with
  | none => rw [es] at hc; exact Bool.noConfusion hc
  | some q =>
  obtain ⟨y, py, v, pos⟩ := q
  rw [es] at hc
  obtain rfl := shAsgN_ok es
  clear es
  have hc : (decide (X.N[i]? = some y) && (locC sc y && ckE c X.N sc e v)) = true := hc
  (simp only [Bool.and_eq_true, decide_eq_true_eq] at hc)
  obtain ⟨hN, hl, hck⟩ := hc
  have hloc := locC_ok hx.scope hl
  have h : Sat ((evE T G e r).bind fun x => R.ok (Fl.nx (r.set i (some x)))) (FlQ X.K fr Mc H0 o O' P H D) (exE c.xc X.K W σ H) := h
  have hcore : Sat (evE T G e r) (okE X.K (frE c e) (MM Mc P (etE e)) (MM Mc P (eiE e)) H (fun x H1 => gName i x σ H1 D.nx)) (exE c.xc X.K W σ H) :=
    Sat.mono (Sat.bind h) (fun d _ h1 x H1 s1 r1 => asg_fin (X := X) hs s1 r1 how h1) fun z hz => hz
  cases hv : isComp v with
  | false => exact PS.ws (ps_set hx.nd hN hloc pe_we (sw_no hv) (.inl (hx.fnT y))) ((sndET e).1 hx.toSX hck hs hcore)
  | true =>
    obtain ⟨own, e', t, it, o2, rfl⟩ := comp_of hck hv
    obtain ⟨elt, tg, iter, ifs, scope, p, rfl, hb, hown, hi, ht, hl2, he, ho, h0⟩ := iv_comp hck
    cases hsw : swB sc y py p scope with
    | false => exact PS.ws (ps_set hx.nd hN hloc pe_we (by rw [sw_lc hx.scope hx.kind, hsw]) (.inl (hx.fnT y))) ((sndET _).1 hx.toSX hck hs hcore)
    | true =>
      have ok : BlkOk X.N X.env.scope scope (ownN X.N own) := by rw [hx.scope]; exact blkOk_by hb
      refine PS.ws (ps_setLc (i := i) (hx.calm h0) hx.nd hN (by rw [hx.scope]; exact swB_loc hsw) (by rw [sw_lc hx.scope hx.kind, hsw]) pi_wi ok gC_pg tC_pt eC_pe (ckI_set hi X.env)) ?_
      rw [hown]
      exact comp_core (sndET e').1 (sndI it) (sndOC o2).2 hx.toSX h0 hi ht hl2 he ho hs hcore
theorem sX_asgN {i : Nat} {e : IE} : SndX c n G fr (.asg (.nm i) e) := sY_asgN.x
theorem sX_asgT {ts : Ts} {e : IE} : SndX c n G fr (.asg (.tp ts) e) := by
  intro T W sc X a o O O' hx hc how Mc H0 H P r σ hs D h
  have hc : (match shAsg a with | some (tg, v, pos) => !c.hot && (ckT X.N sc (.tp ts) tg && (!isTup v && ckE c X.N sc e v)) | none => false) = true := hc
  cases es : shAsg a with
  | none => rw [es] at hc; exact Bool.noConfusion hc
  | some q =>
  obtain ⟨tg, v, pos⟩ := q
  rw [es] at hc
  obtain rfl := shAsg_ok es
  clear es
  have hc : (!c.hot && (ckT X.N sc (.tp ts) tg && (!isTup v && ckE c X.N sc e v))) = true := hc
  simp only [Bool.and_eq_true, Bool.not_eq_true'] at hc
  obtain ⟨h0, ht, hv, hck⟩ := hc
  clear hc
  cases tg <;> first | exact Bool.noConfusion ht | skip
  rename_i es k p
  have how : some (offO O (tgtss ts ++ alE c e)) = some O' := how
  cases how
  refine PS.ws (ps_asg (tg := .Tuple es k p) pe_we pg_wg (sw_tup (a := v) (l := pos.line) (env := X.env) (es := es) (k := k) (p := p)) (st_tup (env := X.env) (es := es) (k := k) (p := p) hv) rfl) ?_
  refine (sndET e).1 hx.toSX hck hs (Sat.mono (Sat.bind (show Sat ((evE T G e r).bind fun x => (asgT (.tp ts) x r).bind fun r1 => R.ok (Fl.nx r1)) _ _ from h)) (fun d _ h1 x H1 s1 r1 => ?_) fun z hz => hz.e hs.same)
  have s2 := (hs.drop (tgtss ts ++ alE c e)).grow s1
  have rp := hs.al (c := c) s1 (L := tgtss ts ++ alE c e) (fun j hj => List.mem_append_right _ hj) r1
  cases ea : asgT (.tp ts) d r with
  | no => rw [ea] at h1; exact h1.elim
  | ex z =>
    exact (asgT_ex ea).elim
  | ok r2 =>
    rw [ea] at h1
    refine sndG hx.toSX (hx.calm h0) (.tp ts) _ ht s2 (fun j hj => ⟨if_pos (List.mem_append_left _ hj), fun z => (mem_offO.mp z).2 (List.mem_append_left _ hj), fun y _ => .inl (hx.fnT y)⟩) rp ea fun σ2 hs2 _ => ?_
    exact (show FlQ X.K fr Mc H0 o _ P H D (.nx r2) from h1) _ _ _ hs2 ((Stp.off _).trans (Stp.same s1))
end
end PL

namespace PL
open L2 PyProof.Rows PySem.Spec PySem

theorem get_list {X : Cx} : PGet X (rIxL X.K) := by
  (intro pins s σ H x y v u Q I rx ry h)
  obtain ⟨lp, vs, i, z, rfl, rfl, gq, ge, q⟩ := h
  cases rx
  obtain ⟨t, rfl⟩ := ry
  obtain ⟨us, r, ql, gz⟩ := I.list gq
  obtain ⟨j, k1, h2, h3, k4, k5⟩ := atI_get ge
  obtain ⟨wv, fw, rw'⟩ := r.get h2
  have hl := r.length
  have hn := line63
  have go : EP X pins σ Q wv s := ⟨z, H, I, rw', q⟩
  by_cases h0 : 0 ≤ i
  · have gj : i.toNat = j := by
      rw [seqIndex_of h0 k5] at k1
      exact Option.some.inj k1
    exact wpAny_getItem_list ql.isList h0 (by omega) (by rw [gj]; simpa using fw) go
  · have gj : (i + (us.toArray.size : Int)).toNat = j := by
      rw [seqIndex_neg (by omega) k4] at k1
      rw [List.size_toArray, ← hl]
      exact Option.some.inj k1
    exact wpAny_getItem_list_neg ql.isList (by omega) (by rw [List.size_toArray] <;> omega) (by omega) (by rw [gj]; simpa using fw) go
theorem setD_ex {a b d z : D} (h : setD a b d = .ex z) : False := by
  unfold setD at h
  split at h
  · split at h <;> cases h
  · split at h
    · split at h
      · split at h <;> cases h
      · cases h
    · cases h
  · split at h
    · split at h
      · split at h <;> cases h
      · cases h
    · cases h
  · cases h
theorem appD_ex {a b z : D} (h : appD a b = .ex z) : False := by
  unfold appD at h
  split at h
  · split at h <;> cases h
  · cases h
theorem insD_ex {a b d z : D} (h : insD a b d = .ex z) : False := by
  unfold insD at h
  split at h
  · split at h <;> cases h
  · cases h
theorem clrD_ex {a z : D} (h : clrD a = .ex z) : False := by
  unfold clrD at h
  split at h <;> cases h
theorem revD_ex {a z : D} (h : revD a = .ex z) : False := by
  unfold revD at h
  split at h <;> cases h
theorem popD_ex {a z : D} (h : popD a = .ex z) : False := by
  unfold popD at h
  split at h
  · split at h <;> cases h
  · cases h
theorem popAtD_ex {a b z : D} (h : popAtD a b = .ex z) : False := by
  unfold popAtD at h
  split at h
  · split at h
    · split at h
      · split at h <;> cases h
      · cases h
    · cases h
  · cases h
section
variable {c : Ck} {n : Nat} {G : Ga} {fr : Bool}
theorem nm_pe {T : List (Str × PL.D)} {W : WX} {sc : Scope} {X : Cx} (hx : SX c T n G W sc X) {x : Nat} {y : Str} {p : Pos} (hN : X.N[x]? = some y) (hv : visB sc y = true) (hn : nmB y = true) : PE X (.Name y p) (tVar x) := by
  obtain ⟨n1, n2⟩ := nmB_ok hn
  exact pe_var hN (hx.vis hv) n1 n2
/-- an own list about to be written, behind a value that comes in -/
theorem own_in {K : PySem.W.Frag} {Mc : AS} {H0 H H1 : Hp} {O : List Nat} {P : Nat → Option Addr} {r : En} {σ : L2.St} (s : SR K Mc H0 O P r σ H) {x : Nat} {L : List Nat} {ds : List D} (g : Same H H1) (ho : O.contains x = true) (hl : L.contains x = false) (hr : r[x]? = some (some (.lst ds))) :
    ∃ p vs, σ[x]? = some (some (.ref p)) ∧ H p = some (.lst vs) ∧ H1 p = some (.lst vs) ∧ vs.length = ds.length ∧ Reps K (MM Mc (offP P L) []) H1 ds vs ∧
      (∀ ds' vs', Reps K (MM Mc (offP P L) []) H1 ds' vs' → SR K Mc H0 (offO O L) (offP P L) (r.set x (some (.lst ds'))) σ (upd H1 p (.lst vs')) ∧ Stp P H (offP P L) (upd H1 p (.lst vs'))) := by
  have ho : x ∈ O := List.contains_iff_mem.mp ho
  have hl : x ∉ L := fun z => by rw [List.contains_iff_mem.mpr z] at hl; cases hl
  have s2 := (s.drop L).grow g
  obtain ⟨p, vs, hp, hσ, hH, hR⟩ := s.ownL ho hr
  obtain ⟨p2, vs2, hp2, hσ2, hH2, hR2⟩ := s2.ownL (mem_offO.mpr ⟨ho, hl⟩) hr
  rw [hσ] at hσ2
  cases hσ2
  have e := g _ _ hH
  rw [e] at hH2
  cases hH2
  refine ⟨p, vs, hσ, hH, e, hR2.len, hR2, fun ds' vs' q => ?_⟩
  obtain ⟨a, b⟩ := s2.write hp2 hr q
  exact ⟨a, (Stp.off L).trans ((Stp.same g).trans b)⟩
/-- an own thing of whatever kind about to be written, behind a value that comes in -/
theorem own_inG {K : PySem.W.Frag} {Mc : AS} {H0 H H1 : Hp} {O : List Nat} {P : Nat → Option Addr} {r : En} {σ : L2.St} (s : SR K Mc H0 O P r σ H) {x : Nat} {L : List Nat} {d : D} (g : Same H H1) (ho : O.contains x = true) (hl : L.contains x = false) (hr : r[x]? = some (some d)) (hm : mutk d = true) :
    ∃ p, σ[x]? = some (some (.ref p)) ∧ Slt K (MM Mc (offP P L) []) H1 (some p) d (.ref p) ∧ MM Mc (offP P L) [] p ∧
      (∀ d' o', MK o' → Slt K (MM Mc (offP P L) []) (upd H1 p o') (some p) d' (.ref p) → SR K Mc H0 (offO O L) (offP P L) (r.set x (some d')) σ (upd H1 p o') ∧ Stp P H (offP P L) (upd H1 p o')) := by
  have ho : x ∈ O := List.contains_iff_mem.mp ho
  have hl : x ∉ L := fun z => by rw [List.contains_iff_mem.mpr z] at hl; cases hl
  have s2 := (s.drop L).grow g
  obtain ⟨p, hp, hσ, hS⟩ := s2.ownG (mem_offO.mpr ⟨ho, hl⟩) hr hm
  refine ⟨p, hσ, hS, .inr ⟨x, by simp, hp⟩, fun d' o' mk q => ?_⟩
  obtain ⟨a, b⟩ := s2.writeG hp hr mk q
  exact ⟨a, (Stp.off L).trans ((Stp.same g).trans b)⟩
theorem tyL {K : PySem.W.Frag} {H : Hp} {p : Addr} {vs : List V} (h : H p = some (.lst vs)) : tyV K "list" (.ref p) H := .inl ⟨rfl, vs, .inl (.inl h)⟩
/-- a slot that holds a list -/
theorem at_list {α : Type} {r : En} {x : Nat} {f : List D → R α} {ok : α → Prop} {ex : D → Prop} (h : Sat ((r.at x).bind fun l => (listD l).bind f) ok ex) : ∃ ds, r[x]? = some (some (.lst ds)) ∧ Sat (f ds) ok ex := by
  obtain ⟨l, el, h⟩ := Sat.val (Sat.bind h) fun z => En.at_ex
  obtain ⟨ds, ed, h⟩ := Sat.val (Sat.bind h) fun z q => by
    unfold listD at q
    split at q <;> cases q
  have := listD_ok ed
  subst this
  exact ⟨ds, En.at_ok el, h⟩
theorem at_listO {α : Type} {r : En} {x : Nat} {f : D → R α} {ok : α → Prop} {ex : D → Prop} (h : Sat ((r.at x).bind f) ok ex) (hf : ∀ d, (∃ ds, d = .lst ds) ∨ f d = .no) : ∃ ds, r[x]? = some (some (.lst ds)) ∧ Sat (f (.lst ds)) ok ex := by
  obtain ⟨l, el, h⟩ := Sat.val (Sat.bind h) fun z => En.at_ex
  rcases hf l with ⟨ds, rfl⟩ | e
  · exact ⟨ds, En.at_ok el, h⟩
  · rw [e] at h; exact h.elim
theorem sX_app {x : Nat} {e : IE} : SndX c n G fr (.app x e) := by
  intro T W sc X a o O O' hx hc how Mc H0 H P r σ hs D h
  have hc : (match shM1 a with | some (y, yp, m, apos, v, cpos, pos) => (decide (m = "append") && ((apos.endLine == cpos.line) && (decide (X.N[x]? = some y) && ((visB sc y && nmB y) && ckE c X.N sc e v)))) | none => false) = true := hc
  cases es : shM1 a with
  | none => rw [es] at hc; exact Bool.noConfusion hc
  | some q =>
  obtain ⟨y, yp, m, apos, v, cpos, pos⟩ := q
  rw [es] at hc
  obtain rfl := shM1_ok es
  clear es
  have hc : (decide (m = "append") && ((apos.endLine == cpos.line) && (decide (X.N[x]? = some y) && ((visB sc y && nmB y) && ckE c X.N sc e v)))) = true := hc
  rw [Bool.and_eq_true, Bool.and_eq_true, Bool.and_eq_true, Bool.and_eq_true, Bool.and_eq_true, decide_eq_true_eq, decide_eq_true_eq] at hc
  obtain ⟨rfl, hl, hN, ⟨hv, hn⟩, hck⟩ := hc
  have how : (if O.contains x && !((alE c e).contains x) then some (offO O (alE c e)) else none) = some O' := how
  split at how
  · rename_i hO
    cases how
    rw [Bool.and_eq_true, Bool.not_eq_true'] at hO
    have s1 := star1 hck [] X.env
    refine PS.ws (ps_expr (pe_bm PySem.F.plainAttrs_list PySem.F.slot_list_append PySem.F.type_list_append mt_append (nm_pe hx.toSX hN hv hn) (pa_cons pe_we pa_nil s1) rfl (by rw [s1]; rfl) hl s1 rfl) (sw_no rfl)) ?_
    have h : Sat ((r.at x).bind fun l => (listD l).bind fun xs => (evE T G e r).bind fun v => (appD (.lst xs) v).bind fun l2 => R.ok (Fl.nx (r.set x (some l2)))) (FlQ X.K fr Mc H0 o _ P H D) (exS c.xc X.K W H0) := h
    obtain ⟨ds, er, h⟩ := at_list h
    obtain ⟨p0, vs0, _, hσ, hH, _⟩ := hs.ownL (List.contains_iff_mem.mp hO.1) er
    refine ⟨.ref p0, hσ, tyL hH, ?_⟩
    refine (sndET e).1 hx.toSX hck hs (Sat.mono (Sat.bind h) (fun d _ h1 y H1 s1 r1 => ?_) fun z hz => hz.e hs.same)
    obtain ⟨p, vs, hσ2, _, hH1, hlen, hR, fin⟩ := own_in hs s1 hO.1 hO.2 er
    rw [hσ] at hσ2
    cases hσ2
    obtain ⟨l2, e2, h2⟩ := Sat.val (Sat.bind h1) fun z => appD_ex
    unfold appD at e2
    dsimp only at e2
    split at e2
    · rename_i hz
      cases e2
      obtain ⟨a1, a2⟩ := fin (ds ++ [d]) (vs ++ [y]) (Reps.app hR (Reps.one (hs.al (c := c) s1 (fun _ z => z) r1)))
      exact ⟨p0, vs, y, rfl, rfl, hH1, by rw [hlen]; exact hz, (show FlQ X.K fr Mc H0 o _ P H D (.nx _) from h2) _ _ _ a1 a2⟩
    · cases e2
  · cases how
theorem sX_ins {x : Nat} {i e : IE} : SndX c n G fr (.ins x i e) := by
  intro T W sc X a o O O' hx hc how Mc H0 H P r σ hs D h
  have hc : (match shM2 a with | some (y, yp, m, apos, u, v, cpos, pos) => (decide (m = "insert") && ((apos.endLine == cpos.line) && (decide (X.N[x]? = some y) && ((visB sc y && nmB y) && (ckE c X.N sc i u && ckE c X.N sc e v))))) | none => false) = true := hc
  cases es : shM2 a with
  | none => rw [es] at hc; exact Bool.noConfusion hc
  | some q =>
  obtain ⟨y, yp, m, apos, u, v, cpos, pos⟩ := q
  rw [es] at hc
  obtain rfl := shM2_ok es
  clear es
  have hc : (decide (m = "insert") && ((apos.endLine == cpos.line) && (decide (X.N[x]? = some y) && ((visB sc y && nmB y) && (ckE c X.N sc i u && ckE c X.N sc e v))))) = true := hc
  rw [Bool.and_eq_true, Bool.and_eq_true, Bool.and_eq_true, Bool.and_eq_true, Bool.and_eq_true, Bool.and_eq_true, decide_eq_true_eq, decide_eq_true_eq] at hc
  obtain ⟨rfl, hl, hN, ⟨hv, hn⟩, hci, hck⟩ := hc
  have how : (if O.contains x && !((alE c e).contains x) then some (offO O (alE c e)) else none) = some O' := how
  split at how
  · rename_i hO
    cases how
    rw [Bool.and_eq_true, Bool.not_eq_true'] at hO
    have s1 := star1 hck [] X.env
    have s2 := star1 hci [v] X.env
    refine PS.ws (ps_expr (pe_bm PySem.F.plainAttrs_list PySem.F.slot_list_insert PySem.F.type_list_insert mt_insert (nm_pe hx.toSX hN hv hn) (pa_cons pe_we (pa_cons pe_we pa_nil s1) s2) rfl (by rw [s2, s1]; rfl) hl s2 (by rw [s1]; rfl)) (sw_no rfl)) ?_
    have h : Sat ((r.at x).bind fun l => (listD l).bind fun xs => (evE T G i r).bind fun k => (evE T G e r).bind fun v => (insD (.lst xs) k v).bind fun l2 => R.ok (Fl.nx (r.set x (some l2)))) (FlQ X.K fr Mc H0 o _ P H D) (exS c.xc X.K W H0) := h
    obtain ⟨ds, er, h⟩ := at_list h
    obtain ⟨p0, vs0, _, hσ, hH, _⟩ := hs.ownL (List.contains_iff_mem.mp hO.1) er
    refine ⟨.ref p0, hσ, tyL hH, ?_⟩
    refine (sndET i).1 hx.toSX hci hs (Sat.mono (Sat.bind h) (fun k _ h0 kv H1 s1 k1 => ?_) fun z hz => hz.e hs.same)
    have hs1 := hs.grow s1
    refine (sndET e).1 hx.toSX hck hs1 (Sat.mono (Sat.bind h0) (fun d _ h1 y H2 s2 r1 => ?_) fun z hz => hz.e hs1.same)
    obtain ⟨p, vs, hσ2, _, hH1, hlen, hR, fin⟩ := own_in hs1 s2 hO.1 hO.2 er
    rw [hσ] at hσ2
    cases hσ2
    obtain ⟨l2, e2, h2⟩ := Sat.val (Sat.bind h1) fun z => insD_ex
    cases k <;> first | cases e2 | skip
    rename_i ki ek0
    unfold insD at e2
    dsimp only at e2
    split at e2
    · rename_i hz
      cases e2
      have ek : kv = .int ki := (k1.repT (hs.trk _)).int
      subst ek
      obtain ⟨a1, a2⟩ := fin (ds.take ki.toNat ++ [d] ++ ds.drop ki.toNat) (vs.take ki.toNat ++ [y] ++ vs.drop ki.toNat) (Reps.app (Reps.app (hR.take _) (Reps.one (hs1.al (c := c) s2 (fun _ z => z) r1))) (hR.drop _))
      exact ⟨p0, vs, ki, y, rfl, rfl, hH1, by rw [hlen]; exact hz.1, hz.2.1, hz.2.2, (show FlQ X.K fr Mc H0 o _ P H D (.nx _) from h2) _ _ _ a1 ((Stp.same s1).trans a2)⟩
    · cases e2
  · cases how
theorem sX_0 {x : Nat} {m : Str} {id : String} {rr : V → List V → Hp → VK → Prop}  {T : List (Str × PL.D)} {W : WX} {sc : Scope} {X : Cx} {o O : List Nat} (slot : Slot "list" m id) (hty : typeOf (.builtin id) = pure (.type "method_descriptor")) (hm : MtM X id rr)
    {y : Str} {yp apos cpos pos : Pos} (hx : SXs c T n G W sc X) (hl : (apos.endLine == cpos.line) = true) (hN : X.N[x]? = some y) (hv : visB sc y = true) (hn : nmB y = true) (hO : O.contains x = true)
    {Mc : AS} {H0 H : Hp} {P : Nat → Option Addr} {r : En} {σ : L2.St} (hs : SR X.K Mc H0 O P r σ H) {D : Ends} {ds ds' : List PL.D} (er : r[x]? = some (some (.lst ds)))
    (hr : ∀ p vs Q, H p = some (.lst vs) → Reps X.K (MM Mc P []) H ds vs → (∀ z vs', Reps X.K (MM Mc P []) H ds' vs' → Q z (upd H p (.lst vs'))) → rr (.ref p) [] H Q)
    (h : FlQ X.K fr Mc H0 o O P H D (.nx (r.set x (some (.lst ds'))))) : WS X (.Expr (.Call (.Attribute (.Name y yp) m apos) [] [] cpos) pos) D σ H := by
  refine PS.ws (ps_expr (pe_bm0 PySem.F.plainAttrs_list slot hty hm (nm_pe hx.toSX hN hv hn) rfl hl) (sw_no rfl)) ?_
  obtain ⟨p, vs, hp, hσ, hH, hR⟩ := hs.ownL (List.contains_iff_mem.mp hO) er
  refine ⟨.ref p, hσ, tyL hH, hr p vs _ hH hR fun z vs' q => ?_⟩
  obtain ⟨a1, a2⟩ := hs.write hp er q
  exact h _ _ _ a1 a2
theorem sX_clr {x : Nat} : SndX c n G fr (.clr x) := by
  intro T W sc X a o O O' hx hc how Mc H0 H P r σ hs D h
  have hc : (match shM0 a with | some (y, yp, m, apos, cpos, pos) => (decide (m = "clear") && ((apos.endLine == cpos.line) && (decide (X.N[x]? = some y) && (visB sc y && nmB y)))) | none => false) = true := hc
  cases es : shM0 a with
  | none => rw [es] at hc; exact Bool.noConfusion hc
  | some q =>
  obtain ⟨y, yp, m, apos, cpos, pos⟩ := q
  rw [es] at hc
  obtain rfl := shM0_ok es
  clear es
  have hc : (decide (m = "clear") && ((apos.endLine == cpos.line) && (decide (X.N[x]? = some y) && (visB sc y && nmB y)))) = true := hc
  rw [Bool.and_eq_true, Bool.and_eq_true, Bool.and_eq_true, Bool.and_eq_true, decide_eq_true_eq, decide_eq_true_eq] at hc
  obtain ⟨rfl, hl, hN, hv, hn⟩ := hc
  have how : (if O.contains x then some O else none) = some O' := how
  split at how
  · rename_i hO
    cases how
    have h : Sat ((r.at x).bind fun l => (clrD l).bind fun l2 => R.ok (Fl.nx (r.set x (some l2)))) (FlQ X.K fr Mc H0 o _ P H D) (exS c.xc X.K W H0) := h
    obtain ⟨ds, er, h⟩ := at_listO h fun d => by cases d <;> first | exact .inl ⟨_, rfl⟩ | exact .inr rfl
    exact sX_0 (fr := fr) (o := o) (ds' := []) PySem.F.slot_list_clear PySem.F.type_list_clear mt_clear hx hl hN hv hn hO hs er (fun p vs Q a b q => ⟨p, vs, rfl, rfl, a, q _ _ rfl⟩) h
  · cases how
theorem sX_rev {x : Nat} : SndX c n G fr (.rev x) := by
  intro T W sc X a o O O' hx hc how Mc H0 H P r σ hs D h
  have hc : (match shM0 a with | some (y, yp, m, apos, cpos, pos) => (decide (m = "reverse") && ((apos.endLine == cpos.line) && (decide (X.N[x]? = some y) && (visB sc y && nmB y)))) | none => false) = true := hc
  cases es : shM0 a with
  | none => rw [es] at hc; exact Bool.noConfusion hc
  | some q =>
  obtain ⟨y, yp, m, apos, cpos, pos⟩ := q
  rw [es] at hc
  obtain rfl := shM0_ok es
  clear es
  have hc : (decide (m = "reverse") && ((apos.endLine == cpos.line) && (decide (X.N[x]? = some y) && (visB sc y && nmB y)))) = true := hc
  rw [Bool.and_eq_true, Bool.and_eq_true, Bool.and_eq_true, Bool.and_eq_true, decide_eq_true_eq, decide_eq_true_eq] at hc
  obtain ⟨rfl, hl, hN, hv, hn⟩ := hc
  have how : (if O.contains x then some O else none) = some O' := how
  split at how
  · rename_i hO
    cases how
    have h : Sat ((r.at x).bind fun l => (revD l).bind fun l2 => R.ok (Fl.nx (r.set x (some l2)))) (FlQ X.K fr Mc H0 o _ P H D) (exS c.xc X.K W H0) := h
    obtain ⟨ds, er, h⟩ := at_listO h fun d => by cases d <;> first | exact .inl ⟨_, rfl⟩ | exact .inr rfl
    exact sX_0 (fr := fr) (o := o) (ds' := ds.reverse) PySem.F.slot_list_reverse PySem.F.type_list_reverse mt_reverse hx hl hN hv hn hO hs er (fun p vs Q a b q => ⟨p, vs, rfl, rfl, a, q _ _ b.reverse⟩) h
  · cases how
theorem sX_pop {x : Nat} : SndX c n G fr (.pop x) := by
  intro T W sc X a o O O' hx hc how Mc H0 H P r σ hs D h
  have hc : (match shM0 a with | some (y, yp, m, apos, cpos, pos) => (decide (m = "pop") && ((apos.endLine == cpos.line) && (decide (X.N[x]? = some y) && (visB sc y && nmB y)))) | none => false) = true := hc
  cases es : shM0 a with
  | none => rw [es] at hc; exact Bool.noConfusion hc
  | some q =>
  obtain ⟨y, yp, m, apos, cpos, pos⟩ := q
  rw [es] at hc
  obtain rfl := shM0_ok es
  clear es
  have hc : (decide (m = "pop") && ((apos.endLine == cpos.line) && (decide (X.N[x]? = some y) && (visB sc y && nmB y)))) = true := hc
  rw [Bool.and_eq_true, Bool.and_eq_true, Bool.and_eq_true, Bool.and_eq_true, decide_eq_true_eq, decide_eq_true_eq] at hc
  obtain ⟨rfl, hl, hN, hv, hn⟩ := hc
  have how : (if O.contains x then some O else none) = some O' := how
  split at how
  · rename_i hO
    cases how
    have h : Sat ((r.at x).bind fun l => (popD l).bind fun p => R.ok (Fl.nx (r.set x (some p.2)))) (FlQ X.K fr Mc H0 o _ P H D) (exS c.xc X.K W H0) := h
    obtain ⟨ds, er, h⟩ := at_listO h fun d => by cases d <;> first | exact .inl ⟨_, rfl⟩ | exact .inr rfl
    have h : Sat ((match ds.getLast? with | some y => R.ok (y, PL.D.lst ds.dropLast) | none => .no).bind fun p => R.ok (Fl.nx (r.set x (some p.2)))) (FlQ X.K fr Mc H0 o _ P H D) (exS c.xc X.K W H0) := h
    cases q : ds.getLast? with
    | none => rw [q] at h; exact h.elim
    | some d =>
      rw [q] at h
      refine sX_0 (fr := fr) (o := o) (ds' := ds.dropLast) PySem.F.slot_list_pop PySem.F.type_list_pop mt_pop hx hl hN hv hn hO hs er (fun p vs Q a b z => ?_) h
      have hlen := b.len
      have ne : ds ≠ [] := fun e => by subst e; cases q
      have q2 : ds[ds.length - 1]? = some d := by rw [← List.getLast?_eq_getElem?]; exact q
      obtain ⟨w, hw, _⟩ := b.get q2
      refine ⟨p, vs, w, rfl, rfl, a, by rw [hlen]; exact hw, z _ _ ?_⟩
      rw [List.dropLast_eq_take, List.dropLast_eq_take, hlen]
      exact b.take _
  · cases how
theorem sX_popAt {x : Nat} {i : IE} : SndX c n G fr (.popAt x i) := by
  intro T W sc X a o O O' hx hc how Mc H0 H P r σ hs D h
  have hc : (match shM1 a with | some (y, yp, m, apos, v, cpos, pos) => (decide (m = "pop") && ((apos.endLine == cpos.line) && (decide (X.N[x]? = some y) && ((visB sc y && nmB y) && ckE c X.N sc i v)))) | none => false) = true := hc
  cases es : shM1 a with
  | none => rw [es] at hc; exact Bool.noConfusion hc
  | some q =>
  obtain ⟨y, yp, m, apos, v, cpos, pos⟩ := q
  rw [es] at hc
  obtain rfl := shM1_ok es
  clear es
  have hc : (decide (m = "pop") && ((apos.endLine == cpos.line) && (decide (X.N[x]? = some y) && ((visB sc y && nmB y) && ckE c X.N sc i v)))) = true := hc
  rw [Bool.and_eq_true, Bool.and_eq_true, Bool.and_eq_true, Bool.and_eq_true, Bool.and_eq_true, decide_eq_true_eq, decide_eq_true_eq] at hc
  obtain ⟨rfl, hl, hN, ⟨hv, hn⟩, hck⟩ := hc
  have how : (if O.contains x then some O else none) = some O' := how
  split at how
  · rename_i hO
    cases how
    have s1 := star1 hck [] X.env
    refine PS.ws (ps_expr (pe_bm PySem.F.plainAttrs_list PySem.F.slot_list_pop PySem.F.type_list_pop mt_popAt (nm_pe hx.toSX hN hv hn) (pa_cons pe_we pa_nil s1) rfl (by rw [s1]; rfl) hl s1 rfl) (sw_no rfl)) ?_
    have h : Sat ((r.at x).bind fun l => (listD l).bind fun xs => (evE T G i r).bind fun k => (popAtD (.lst xs) k).bind fun p => R.ok (Fl.nx (r.set x (some p.2)))) (FlQ X.K fr Mc H0 o _ P H D) (exS c.xc X.K W H0) := h
    obtain ⟨ds, er, h⟩ := at_list h
    obtain ⟨p0, vs0, hp, hσ, hH, _⟩ := hs.ownL (List.contains_iff_mem.mp hO) er
    refine ⟨.ref p0, hσ, tyL hH, ?_⟩
    refine (sndET i).1 hx.toSX hck hs (Sat.mono (Sat.bind h) (fun k _ h1 kv H1 s1 k1 => ?_) fun z hz => hz.e hs.same)
    have hs1 := hs.grow s1
    obtain ⟨p1, vs, hp1, hσ1, hH1, hR⟩ := hs1.ownL (List.contains_iff_mem.mp hO) er
    rw [hσ] at hσ1
    cases hσ1
    obtain ⟨l2, e2, h2⟩ := Sat.val (Sat.bind h1) fun z => popAtD_ex
    cases k <;> first | cases e2 | skip
    rename_i ki ek0
    unfold popAtD at e2
    dsimp only at e2
    split at e2
    · rename_i hz
      cases q : ixN ds.length ki with
      | none => rw [q] at e2; cases e2
      | some k =>
        rw [q] at e2
        dsimp only at e2
        cases q2 : ds[k]? with
        | none => rw [q2] at e2; cases e2
        | some w =>
          rw [q2] at e2
          cases e2
          have ek : kv = .int ki := (k1.repT (hs.trk _)).int
          subst ek
          obtain ⟨u, hu, _⟩ := hR.get q2
          obtain ⟨a1, a2⟩ := hs1.write hp1 er (hR.eraseIdx k)
          have hlen := hR.len
          exact ⟨p0, vs, ki, k, u, rfl, rfl, hH1, hz.1, hz.2, by rw [hlen]; exact (ixN_seq q).1, hu, (show FlQ X.K fr Mc H0 o _ P H D (.nx _) from h2) _ _ _ a1 ((Stp.same s1).trans a2)⟩
    · cases e2
  · cases how
end
end PL

namespace PL
open L2 PyProof.Rows PySem.Spec PySem

section
variable {c : Ck} {n : Nat} {G : Ga} {fr : Bool}
def opF : Operator → Int → Int → Int
  | .Add => fun i j => i + j
  | _ => fun i j => i - j
theorem ip_of {X : Cx} {o : Operator} (h : ipB o = true) : PIp X o (ipI (opF o)) := by
  unfold ipB at h
  (rw [Bool.or_eq_true, decide_eq_true_eq, decide_eq_true_eq] at h)
  rcases h with rfl | rfl
  · exact ip_add
  · exact ip_sub
theorem ip_bin {o : Operator} (h : ipB o = true) {i j : Int} : binD o (.int i) (.int j) = .ok (.int (opF o i j)) := by
  unfold ipB at h
  (rw [Bool.or_eq_true, decide_eq_true_eq, decide_eq_true_eq] at h)
  rcases h with rfl | rfl <;> rfl
theorem ints2 {x y : D} {o : Operator} {α : Type} {f : D → R α} {ok : α → Prop} {ex : D → Prop} (hb : ipB o = true) (h : Sat ((match x, y with | .int _, .int _ => binD o x y | _, _ => R.no).bind f) ok ex) :
    ∃ i j, x = .int i ∧ y = .int j ∧ Sat (f (.int (opF o i j))) ok ex := by
  cases x <;> cases y <;> first
    | exact h.elim
    | skip
  rename_i i j
  refine ⟨i, j, rfl, rfl, ?_⟩
  have h : Sat ((binD o (.int i) (.int j)).bind f) ok ex := h
  rw [ip_bin hb] at h
  exact h
/-- the state behind a plain value put into a slot -/
theorem SR.flatset {K : PySem.W.Frag} {Mc : AS} {H0 H : Hp} {O : List Nat} {P : Nat → Option Addr} {r : En} {σ : L2.St} (s : SR K Mc H0 O P r σ H) (i : Nat) {d : D} {v : V} (h : ∀ M, Rep K M H d v) :
    SR K Mc H0 (offO O [i]) (offP P [i]) (r.set i (some d)) (σ.set i (some v)) H := (s.drop [i]).set (if_pos (List.mem_singleton.mpr rfl)) (fun z => (mem_offO.mp z).2 (List.mem_singleton.mpr rfl)) (h _)
theorem sX_aug {i : Nat} {op : Operator} {e : IE} : SndX c n G fr (.aug i op e) := by
  intro T W sc X a o O O' hx hc how Mc H0 H P r σ hs D h
  have hc : (match shAugN a with | some (y, _, op', v, _) => decide (op = op') && (ipB op && (decide (X.N[i]? = some y) && (locC sc y && ckE c X.N sc e v))) | none => false) = true := hc
  cases es : shAugN a with
  | none => rw [es] at hc; exact Bool.noConfusion hc
  | some q =>
  obtain ⟨y, yp, op', v, pos⟩ := q
  rw [es] at hc
  obtain rfl := shAugN_ok es
  clear es
  have hc : (decide (op = op') && (ipB op && (decide (X.N[i]? = some y) && (locC sc y && ckE c X.N sc e v)))) = true := hc
  rw [Bool.and_eq_true, Bool.and_eq_true, Bool.and_eq_true, Bool.and_eq_true, decide_eq_true_eq, decide_eq_true_eq] at hc
  obtain ⟨rfl, hb, hN, hl, hck⟩ := hc
  have how : some (offO O [i]) = some O' := how
  cases how
  refine PS.ws (ps_aug hx.nd hN (locC_ok hx.scope hl) pe_we (ip_of hb) (.inl (hx.fnT y))) ?_
  have h : Sat ((r.at i).bind fun x => (evE T G e r).bind fun y => (match x, y with
      | .int _, .int _ => binD op x y
      | _, _ => R.no).bind fun z => R.ok (Fl.nx (r.set i (some z)))) (FlQ X.K fr Mc H0 o _ P H D) (exS c.xc X.K W H0) := h
  obtain ⟨x, ex, h⟩ := Sat.val (Sat.bind h) fun z => En.at_ex
  obtain ⟨xv, hσ, hxv⟩ := hs.var (En.at_ok ex)
  refine ⟨xv, hσ, ?_⟩
  refine (sndET e).1 hx.toSX hck hs (Sat.mono (Sat.bind h) (fun d _ h1 y H1 s1 r1 => ?_) fun z hz => hz.e hs.same)
  obtain ⟨k, j, rfl, rfl, h2⟩ := ints2 hb h1
  exact ⟨k, j, hxv.int, (r1.repT (hs.trk _)).int, (show FlQ X.K fr Mc H0 o _ P H D (.nx _) from h2) _ _ _ ((hs.grow s1).flatset i fun M => rfl) ((Stp.same s1).trans (Stp.off _))⟩
theorem sX_par {i j : Nat} {e f : IE} : SndX c n G fr (.par i j e f) := by
  intro T W sc X a o O O' hx hc how Mc H0 H P r σ hs D h
  have hc : (match shPar a with | some ((x, px, y, py), _, (u, v), _, _) => !c.hot && (decide (X.N[i]? = some x) && (decide (X.N[j]? = some y) && (decide (i ≠ j) && (decide (x ≠ y) && (decide (px.line = py.line) && (decide (sc.names.lookup x = some .local) &&
      (decide (sc.names.lookup y = some .local) && (parB u v && (ckE c X.N sc e u && ckE c X.N sc f v))))))))) | none => false) = true := hc
  cases es : shPar a with
  | none => rw [es] at hc; exact Bool.noConfusion hc
  | some q =>
  obtain ⟨⟨x, px, y, py⟩, ⟨kt, pt⟩, ⟨u, v⟩, ⟨k2, pt2⟩, pos⟩ := q
  rw [es] at hc
  obtain rfl := shPar_ok es
  clear es
  have hc : (!c.hot && (decide (X.N[i]? = some x) && (decide (X.N[j]? = some y) && (decide (i ≠ j) && (decide (x ≠ y) && (decide (px.line = py.line) && (decide (sc.names.lookup x = some .local) &&
      (decide (sc.names.lookup y = some .local) && (parB u v && (ckE c X.N sc e u && ckE c X.N sc f v)))))))))) = true := hc
  rw [Bool.and_eq_true, Bool.not_eq_true'] at hc
  obtain ⟨h0, hc⟩ := hc
  rw [Bool.and_eq_true, Bool.and_eq_true, Bool.and_eq_true, Bool.and_eq_true, Bool.and_eq_true, Bool.and_eq_true, Bool.and_eq_true, Bool.and_eq_true, Bool.and_eq_true, decide_eq_true_eq, decide_eq_true_eq, decide_eq_true_eq, decide_eq_true_eq, decide_eq_true_eq, decide_eq_true_eq, decide_eq_true_eq] at hc
  obtain ⟨hi, hj, hij, hxy, hln, hlx, hly, hp, hce, hcf⟩ := hc
  have how : some (offO O (i :: j :: (alE c e ++ alE c f))) = some O' := how
  cases how
  have s1 := star1 hcf [] X.env
  have s2 := star1 hce [v] X.env
  refine PS.ws (ps_par (ta := tCons (WE X u) (tCons (WE X v) tNil)) (hx.calm h0) hx.nd hi hj hij (by rw [hx.scope]; exact hlx) (by rw [hx.scope]; exact hly) (pa_cons pe_we (pa_cons pe_we pa_nil s1) s2) (st_par hx.scope hx.kind hlx hly hln hxy hp) rfl) ?_
  have h : Sat ((evE T G e r).bind fun x => (evE T G f r).bind fun y => R.ok (Fl.nx ((r.set i (some x)).set j (some y)))) (FlQ X.K fr Mc H0 o _ P H D) (exS c.xc X.K W H0) := h
  refine (sndET e).1 hx.toSX hce hs (Sat.mono (Sat.bind h) (fun d _ h0 xv H1 g1 r1 => ?_) fun z hz => hz.e hs.same)
  have hs1 := hs.grow g1
  refine (sndET f).1 hx.toSX hcf hs1 (Sat.mono (Sat.bind h0) (fun d2 _ h1 yv H2 g2 r2 => ?_) fun z hz => hz.e hs1.same)
  let L := i :: j :: (alE c e ++ alE c f)
  have a1 := hs.al (c := c) g1 (L := L) (fun z hz => List.mem_cons_of_mem _ (List.mem_cons_of_mem _ (List.mem_append_left _ hz))) r1
  have a2 := hs1.al (c := c) g2 (L := L) (fun z hz => List.mem_cons_of_mem _ (List.mem_cons_of_mem _ (List.mem_append_right _ hz))) r2
  have hs2 := (hs1.grow g2).drop L
  have mi : i ∈ L := List.mem_cons_self ..
  have mj : j ∈ L := List.mem_cons_of_mem _ (List.mem_cons_self ..)
  have hs3 := (hs2.set (if_pos mi) (fun z => (mem_offO.mp z).2 mi) (a1.same g2)).set (if_pos mj) (fun z => (mem_offO.mp z).2 mj) a2
  exact ⟨xv, yv, rfl, (show FlQ X.K fr Mc H0 o _ P H D (.nx _) from h1) _ _ _ hs3 (((Stp.same g1).trans (Stp.same g2)).trans (Stp.off L))⟩
theorem notSl {c : Ck} {N : List Str} {sc : Scope} {i : IE} {ix : Expr} (h : ckE c N sc i ix = true) : ∀ a b s p, ix ≠ .Slice a b s p := fun a b s p e => by
  subst e
  rw [ckE_slice] at h; cases h
theorem asgSub {o ix : Expr} {env : Env} {pos : Pos} (h : ∀ a b s p, ix ≠ .Slice a b s p) : ∀ vv, assign (.Subscript o ix pos) env vv = (do
      let oo ← holding [vv] (eval o env)
      let ii ← holding [vv, oo] (eval ix env)
      standAt pos
      holding [vv, oo, ii] (setItem oo ii vv)
      release [vv, oo, ii] []) := fun vv => by
  cases ix <;> first | rfl | exact absurd rfl (h _ _ _ _)
theorem dcK_mut {ks : List Key} {ds : List PL.D} : mutk (.dK ks ds) = true := rfl
theorem isDct_mut {d : PL.D} (h : isDct d = true) : mutk d = true := by cases d <;> first | rfl | cases h
theorem popkD_ex {a b z : PL.D} (h : popkD a b = .ex z) : False := by
  unfold popkD at h
  split at h
  · split at h
    · split at h <;> cases h
    · cases h
  · cases h
/-- a dict is written -/
theorem setD_dct {K : PySem.W.Frag} {M : AS} {H : Hp} {p : Addr} {l k v l2 : PL.D} {y u : V} (hl : isDct l = true) (hs : Slt K M H (some p) l (.ref p)) (hp : M p) (rk : RepT K F0 F0 H k y) (rv : Rep K M H v u) (e : setD l k v = .ok l2) :
    ∃ o', MK o' ∧ DPut H p y u (upd H p o') ∧ Slt K M (upd H p o') (some p) l2 (.ref p) := by
  cases l <;> first | cases hl | skip
  · rename_i ks ds
    obtain ⟨_, vs, hH, hn, rs⟩ := hs
    have e : (match kyOf k with | some k => if ks.length < sizeLine then (if memK ks k = true then R.ok (PL.D.dK ks (repK ks ds k v)) else .ok (PL.D.dK (ks ++ [k]) (ds ++ [v]))) else .no | none => .no) = .ok l2 := e
    cases q : kyOf k with
    | none => (rw [q] at e; cases e)
    | some k' =>
      rw [q] at e
      have e : (if ks.length < sizeLine then (if memK ks k' = true then R.ok (PL.D.dK ks (repK ks ds k' v)) else .ok (.dK (ks ++ [k']) (ds ++ [v]))) else .no) = .ok l2 := e
      split at e
      case isFalse => cases e
      rename_i hz
      have hvl := rs.len
      have ey : y = kV k' := kyOf_v q rk.rep
      have zl : (ks.zip vs).length < sizeLine := by rw [List.length_zip]; omega
      have gw : ∀ o', Gr K M H M (upd H p o') := fun o' => Gr.write hp hH (fun _ z => nomatch z) fun _ _ z => nomatch z
      have pz := putK_zip (ks := ks) (us := vs) k' u (by omega)
      refine ⟨.dK (putK (ks.zip vs) k' u), trivial, .inl ⟨_, _, hH, ey, zl, rfl⟩, ?_⟩
      split at e
      · rename_i hm
        cases e
        rw [pz, if_pos hm]
        exact ⟨rfl, _, upd_same, by rw [repK_len]; exact hn, Reps.gr (gw _) _ _ (Reps.repK rs rv)⟩
      · rename_i hm
        cases e
        rw [pz, if_neg hm]
        exact ⟨rfl, _, upd_same, by rw [List.length_append, List.length_append, hn]; rfl, Reps.gr (gw _) _ _ (Reps.app rs (Reps.one rv))⟩
  · rename_i ks ds
    obtain ⟨_, vs, hH, hn, rs⟩ := hs
    cases k <;> first | cases e | skip
    rename_i es
    have e : (match kysOf es with | some k => if ks.length < sizeLine then (if memK ks k = true then R.ok (PL.D.dT ks (repK ks ds k v)) else .ok (PL.D.dT (ks ++ [k]) (ds ++ [v]))) else .no | none => .no) = .ok l2 := e
    cases q : kysOf es with
    | none => (rw [q] at e; cases e)
    | some k' =>
      rw [q] at e
      have e : (if ks.length < sizeLine then (if memK ks k' = true then R.ok (PL.D.dT ks (repK ks ds k' v)) else .ok (.dT (ks ++ [k']) (ds ++ [v]))) else .no) = .ok l2 := e
      split at e
      case isFalse => cases e
      rename_i hz
      have hvl := rs.len
      obtain ⟨b, us, rfl, hb, ru⟩ := rk
      have ey := kysOf_v q ru
      subst ey
      have zl : (ks.zip vs).length < sizeLine := by rw [List.length_zip]; omega
      have gw : ∀ o', Gr K M H M (upd H p o') := fun o' => Gr.write hp hH (fun _ z => nomatch z) fun _ _ z => nomatch z
      have pz := putK_zip (ks := ks) (us := vs) k' u (by omega)
      refine ⟨.dT (putK (ks.zip vs) k' u), trivial, .inr ⟨_, _, b, hH, rfl, hb, zl, rfl⟩, ?_⟩
      split at e
      · rename_i hm
        cases e
        rw [pz, if_pos hm]
        exact ⟨rfl, _, upd_same, by rw [repK_len]; exact hn, Reps.gr (gw _) _ _ (Reps.repK rs rv)⟩
      · rename_i hm
        cases e
        rw [pz, if_neg hm]
        exact ⟨rfl, _, upd_same, by rw [List.length_append, List.length_append, hn]; rfl, Reps.gr (gw _) _ _ (Reps.app rs (Reps.one rv))⟩
theorem sX_sets {x : Nat} {i e : IE} : SndX c n G fr (.sets x i e) := by
  intro T W sc X a o O O' hx hc how Mc H0 H P r σ hs D h
  have hc : (match shSet a with | some (y, yp, ix, ps, v, pos) => (decide (X.N[x]? = some y) && ((visB sc y && nmB y) && (ckE c X.N sc i ix && ckE c X.N sc e v))) | none => false) = true := hc
  cases es : shSet a with
  | none => rw [es] at hc; exact Bool.noConfusion hc
  | some q =>
  obtain ⟨y, yp, ix, ps, v, pos⟩ := q
  rw [es] at hc
  obtain rfl := shSet_ok es
  clear es
  have hc : (decide (X.N[x]? = some y) && ((visB sc y && nmB y) && (ckE c X.N sc i ix && ckE c X.N sc e v))) = true := hc
  rw [Bool.and_eq_true, Bool.and_eq_true, Bool.and_eq_true, Bool.and_eq_true, decide_eq_true_eq] at hc
  obtain ⟨hN, ⟨hv, hn⟩, hci, hck⟩ := hc
  have how : (if O.contains x && !((alE c e).contains x) then some (offO O (alE c e)) else none) = some O' := how
  split at how
  · rename_i hO
    cases how
    rw [Bool.and_eq_true, Bool.not_eq_true'] at hO
    have h : Sat ((evE T G e r).bind fun v => (r.at x).bind fun l => (evE T G i r).bind fun k => (setD l k v).bind fun l2 => R.ok (Fl.nx (r.set x (some l2)))) (FlQ X.K fr Mc H0 o _ P H D) (exS c.xc X.K W H0) := h
    by_cases hD : ∃ d, r[x]? = some (some d) ∧ isDct d = true
    · obtain ⟨l, el, hdl⟩ := hD
      refine PS.ws (ps_dput (by have := hx.hu; omega) (nm_pe hx.toSX hN hv hn) pe_we pe_we (sw_sub (a := v) (l := pos.line) (env := X.env) (x := .Name y yp) (y := ix) (p := ps))) ?_
      refine (sndET e).1 hx.toSX hck hs (Sat.mono (Sat.bind h) (fun d _ h1 xv H1 s1 r1 => ?_) fun z hz => hz.e hs.same)
      have hs1 := hs.grow s1
      have er : r.at x = .ok l := by unfold En.at; rw [el]
      rw [er] at h1
      have h1 : Sat ((evE T G i r).bind fun k => (setD l k d).bind fun l2 => R.ok (Fl.nx (r.set x (some l2)))) (FlQ X.K fr Mc H0 o _ P H D) (exS c.xc X.K W H0) := h1
      obtain ⟨p0, hσ0, _, _, _⟩ := own_inG hs s1 hO.1 hO.2 el (isDct_mut hdl)
      refine ⟨.ref p0, hσ0, ?_⟩
      refine (sndET i).1 hx.toSX hci hs1 (Sat.mono (Sat.bind h1) (fun k _ h2 kv H2 s2 k1 => ?_) fun z hz => hz.e hs1.same)
      obtain ⟨l2, e2, h3⟩ := Sat.val (Sat.bind h2) fun z => setD_ex
      obtain ⟨p, hσ, hS, hp, fin⟩ := own_inG hs (s1.trans s2) hO.1 hO.2 el (isDct_mut hdl)
      rw [hσ0] at hσ
      cases hσ
      obtain ⟨o', mk, hput, hS2⟩ := setD_dct hdl hS hp (k1.repT (hs1.trk _)).free ((hs.al (c := c) s1 (fun _ z => z) r1).same s2) e2
      obtain ⟨a1, a2⟩ := fin l2 o' mk hS2
      exact ⟨p0, _, rfl, hput, (show FlQ X.K fr Mc H0 o _ P H D (.nx _) from h3) _ _ _ a1 a2⟩
    refine PS.ws (ps_asg (tg := .Subscript (.Name y yp) ix ps) pe_we (pg_sub (nm_pe hx.toSX hN hv hn) pe_we set_list (asgSub (notSl hci))) (sw_sub (a := v) (l := pos.line) (env := X.env) (x := .Name y yp) (y := ix) (p := ps)) (st_sub (env := X.env) (x := .Name y yp) (y := ix) (p := ps)) rfl) ?_
    have h : Sat ((evE T G e r).bind fun v => (r.at x).bind fun l => (evE T G i r).bind fun k => (setD l k v).bind fun l2 => R.ok (Fl.nx (r.set x (some l2)))) (FlQ X.K fr Mc H0 o _ P H D) (exS c.xc X.K W H0) := h
    refine (sndET e).1 hx.toSX hck hs (Sat.mono (Sat.bind h) (fun d _ h1 xv H1 s1 r1 => ?_) fun z hz => hz.e hs.same)
    have hs1 := hs.grow s1
    obtain ⟨l, el, h1⟩ := Sat.val (Sat.bind h1) fun z => En.at_ex
    obtain ⟨lv, hσ, _⟩ := hs1.var (En.at_ok el)
    refine ⟨lv, hσ, ?_⟩
    refine (sndET i).1 hx.toSX hci hs1 (Sat.mono (Sat.bind h1) (fun k _ h2 kv H2 s2 k1 => ?_) fun z hz => hz.e hs1.same)
    obtain ⟨l2, e2, h3⟩ := Sat.val (Sat.bind h2) fun z => setD_ex
    have hnd : isDct l = false := by
      cases q : isDct l with
      | false => rfl
      | true => exact absurd ⟨l, En.at_ok el, q⟩ hD
    obtain ⟨ds, ki, rfl, rfl⟩ : ∃ ds ki, l = .lst ds ∧ k = .int ki := by cases l <;> cases k <;> first | (cases e2; done) | (cases hnd; done) | exact ⟨_, _, rfl, rfl⟩
    obtain ⟨p, vs, hσ2, _, hH2, hlen, hR, fin⟩ := own_in hs (s1.trans s2) hO.1 hO.2 (En.at_ok el)
    rw [hσ] at hσ2
    cases hσ2
    unfold setD at e2
    dsimp only at e2
    cases q : ixN ds.length ki with
    | none => rw [q] at e2; cases e2
    | some j =>
      rw [q] at e2
      cases e2
      have ek : kv = .int ki := (k1.repT (hs1.trk _)).int
      subst ek
      obtain ⟨a1, a2⟩ := fin (ds.set j d) (vs.set j xv) (Reps.set j hR ((hs.al (c := c) s1 (fun _ z => z) r1).same s2))
      exact ⟨p, vs, ki, j, rfl, rfl, hH2, by rw [hlen]; exact q, (show FlQ X.K fr Mc H0 o _ P H D (.nx _) from h3) _ _ _ a1 a2⟩
  · cases how
theorem setslD_ex {xs : List PL.D} {i j : Int} {v z : PL.D} (h : setslD xs i j v = .ex z) : False := by
  unfold setslD at h
  split at h
  · split at h <;> cases h
  · cases h
theorem sX_setsl {x : Nat} {lo hi e : IE} : SndX c n G fr (.setsl x lo hi e) := by
  intro T W sc X a o O O' hx hc how Mc H0 H P r σ hs D h
  have hc : (match shSl a with | some ((y, _), (l, u, _, _), v, _) => decide (X.N[x]? = some y) && ((visB sc y && nmB y) && (frE c e && (ckE c X.N sc lo l && (ckE c X.N sc hi u && ckE c X.N sc e v)))) | none => false) = true := hc
  cases es : shSl a with
  | none => rw [es] at hc; exact Bool.noConfusion hc
  | some q =>
  obtain ⟨⟨y, yp⟩, ⟨l, u, p2, ps⟩, v, pos⟩ := q
  rw [es] at hc
  obtain rfl := shSl_ok es
  clear es
  have hc : (decide (X.N[x]? = some y) && ((visB sc y && nmB y) && (frE c e && (ckE c X.N sc lo l && (ckE c X.N sc hi u && ckE c X.N sc e v))))) = true := hc
  rw [Bool.and_eq_true, Bool.and_eq_true, Bool.and_eq_true, Bool.and_eq_true, Bool.and_eq_true, Bool.and_eq_true, decide_eq_true_eq] at hc
  obtain ⟨hN, ⟨hv, hn⟩, hfe, hcl, hcu, hck⟩ := hc
  have how : (if O.contains x && !((alE c e).contains x) then some (offO O (alE c e)) else none) = some O' := how
  split at how
  · rename_i hO
    cases how
    rw [Bool.and_eq_true, Bool.not_eq_true'] at hO
    refine PS.ws (ps_asg (tg := .Subscript (.Name y yp) (.Slice (some l) (some u) none p2) ps) pe_we (pg_slc (nm_pe hx.toSX hN hv hn) (po_some pe_we) (po_some pe_we)) (sw_sub (a := v) (l := pos.line) (env := X.env) (x := .Name y yp) (y := .Slice (some l) (some u) none p2) (p := ps)) (st_sub (env := X.env) (x := .Name y yp) (y := .Slice (some l) (some u) none p2) (p := ps)) rfl) ?_
    have h : Sat ((evE T G e r).bind fun v => (r.at x).bind fun l => (listD l).bind fun xs => (evE T G lo r).bind fun a => (intD a).bind fun i => (evE T G hi r).bind fun b => (intD b).bind fun j => (setslD xs i j v).bind fun l2 => R.ok (Fl.nx (r.set x (some l2)))) (FlQ X.K fr Mc H0 o _ P H D) (exS c.xc X.K W H0) := h
    refine (sndET e).1 hx.toSX hck hs (Sat.mono (Sat.bind h) (fun d _ h1 xv H1 s1 r1 => ?_) fun z hz => hz.e hs.same)
    have hs1 := hs.grow s1
    obtain ⟨ds, el, h1⟩ := at_list h1
    obtain ⟨lv, hσ, _⟩ := hs1.var el
    refine ⟨lv, hσ, ?_⟩
    refine (sndET lo).1 hx.toSX hcl hs1 (Sat.mono (Sat.bind h1) (fun k _ h2 kv H2 s2 k1 => ?_) fun z hz => hz.e hs1.same)
    obtain ⟨i, ei, g2⟩ := Sat.val (Sat.bind h2) fun z => intD_ex
    obtain rfl : k = .int i := by cases k <;> first | cases ei; rfl | cases ei
    have hs2 := hs1.grow s2
    refine ⟨i, (k1.repT (hs1.trk _)).int, ?_⟩
    refine (sndET hi).1 hx.toSX hcu hs2 (Sat.mono (Sat.bind g2) (fun k _ h3 kv H3 s3 k2 => ?_) fun z hz => hz.e hs2.same)
    obtain ⟨j, ej, g3⟩ := Sat.val (Sat.bind h3) fun z => intD_ex
    obtain rfl : k = .int j := by cases k <;> first | cases ej; rfl | cases ej
    refine ⟨j, (k2.repT (hs2.trk _)).int, ?_⟩
    obtain ⟨l2, e2, h4⟩ := Sat.val (Sat.bind g3) fun z => setslD_ex
    obtain ⟨ys, rfl, hz, rfl⟩ : ∃ ys, d = .lst ys ∧ (0 ≤ i ∧ i ≤ j ∧ j ≤ ds.length ∧ ds.length + ys.length ≤ sizeLine) ∧ l2 = .lst (ds.take i.toNat ++ ys ++ ds.drop j.toNat) := by
      unfold setslD at e2
      split at e2
      · split at e2
        · rename_i hz
          cases e2
          exact ⟨_, rfl, hz, rfl⟩
        · cases e2
      · cases e2
    obtain ⟨p, vs, hσ2, hp0, hH3, hlen, hR, fin⟩ := own_in hs ((s1.trans s2).trans s3) hO.1 hO.2 el
    rw [hσ] at hσ2
    cases hσ2
    rw [hfe] at r1
    obtain ⟨b, vy, rfl, b1, b2, b3⟩ := (show FrT X.K (MM Mc P (eiE e)) H H1 (.lst ys) xv from r1)
    have ne : p ≠ b := fun z => by rw [z, b1] at hp0; cases hp0
    have ea : alE c e = eiE e := by unfold alE; rw [if_pos hfe]
    have ry : Reps X.K (MM Mc (offP P (alE c e)) []) H3 ys vy := Reps.same (s2.trans s3) (b3.less fun z hz => .inl (MM.off (fun i hi => by rw [ea]; exact hi) z hz))
    have hly := ry.len
    obtain ⟨a1, a2⟩ := fin (ds.take i.toNat ++ ys ++ ds.drop j.toNat) (vs.take i.toNat ++ vy ++ vs.drop j.toNat) (Reps.app (Reps.app (hR.take _) ry) (hR.drop _))
    exact ⟨p, b, vs, vy, i, j, rfl, rfl, rfl, rfl, hH3, (s2.trans s3) _ _ b2, ne, hz.1, hz.2.1, by rw [hlen]; exact hz.2.2.1, by rw [hlen, hly]; exact hz.2.2.2, (show FlQ X.K fr Mc H0 o _ P H D (.nx _) from h4) _ _ _ a1 a2⟩
  · cases how
theorem augSt {ix : Expr} (h : ∀ a b s p, ix ≠ .Slice a b s p) : ∀ ov iv new, augStore ix ov iv new = (do holding [new, ov, iv] (setItem ov iv new); release [new, ov, iv] []; pure .next) := fun ov iv new => by
  cases ix <;> first | rfl | exact absurd rfl (h _ _ _ _)
theorem sX_augs {x : Nat} {i e : IE} {op : Operator} : SndX c n G fr (.augs x i op e) := by
  intro T W sc X a o O O' hx hc how Mc H0 H P r σ hs D h
  have hc : (match shAugS a with | some (y, _, ix, _, op', v, _) => decide (op = op') && (ipB op && (decide (X.N[x]? = some y) && ((visB sc y && nmB y) && (ckE c X.N sc i ix && ckE c X.N sc e v)))) | none => false) = true := hc
  cases es : shAugS a with
  | none => rw [es] at hc; exact Bool.noConfusion hc
  | some q =>
  obtain ⟨y, yp, ix, ps, op', v, pos⟩ := q
  rw [es] at hc
  obtain rfl := shAugS_ok es
  clear es
  have hc : (decide (op = op') && (ipB op && (decide (X.N[x]? = some y) && ((visB sc y && nmB y) && (ckE c X.N sc i ix && ckE c X.N sc e v))))) = true := hc
  rw [Bool.and_eq_true, Bool.and_eq_true, Bool.and_eq_true, Bool.and_eq_true, Bool.and_eq_true, Bool.and_eq_true, decide_eq_true_eq, decide_eq_true_eq] at hc
  obtain ⟨rfl, hb, hN, ⟨hv, hn⟩, hci, hck⟩ := hc
  have how : (if O.contains x then some O else none) = some O' := how
  split at how
  · rename_i hO
    cases how
    refine PS.ws (ps_augS (nm_pe hx.toSX hN hv hn) pe_we get_list pe_we (ip_of hb) set_list (augSt (notSl hci))) ?_
    have h : Sat ((r.at x).bind fun l => (listD l).bind fun xs => (evE T G i r).bind fun k => (subD (.lst xs) k).bind fun u => (evE T G e r).bind fun v => (match u, v with
      | .int _, .int _ => binD op u v
      | _, _ => R.no).bind fun z => (setD (.lst xs) k z).bind fun l2 => R.ok (Fl.nx (r.set x (some l2)))) (FlQ X.K fr Mc H0 o _ P H D) (exS c.xc X.K W H0) := h
    obtain ⟨ds, er, h⟩ := at_list h
    obtain ⟨p, vs0, hp, hσ, hH, _⟩ := hs.ownL (List.contains_iff_mem.mp hO) er
    refine ⟨.ref p, hσ, ?_⟩
    refine (sndET i).1 hx.toSX hci hs (Sat.mono (Sat.bind h) (fun k _ h2 kv H1 s1 k1 => ?_) fun z hz => hz.e hs.same)
    have hs1 := hs.grow s1
    obtain ⟨u, eu, h3⟩ := Sat.val (Sat.bind h2) fun z => subD_ex
    obtain ⟨ki, rfl⟩ : ∃ ki, k = .int ki := by cases k <;> first | cases eu | exact ⟨_, rfl⟩
    have ek : kv = .int ki := (k1.repT (hs.trk _)).int
    subst ek
    have eu : (match atI ds ki with | some d => R.ok d | none => R.no) = R.ok u := eu
    cases eat : atI ds ki with
    | none => rw [eat] at eu; cases eu
    | some d0 =>
      rw [eat] at eu
      injection eu with eu
      subst eu
      have eat2 := eat
      unfold atI at eat2
      cases q : ixN ds.length ki with
      | none => rw [q] at eat2; cases eat2
      | some j =>
        rw [q] at eat2
        have eat2 : ds[j]? = some d0 := eat2
        obtain ⟨p1, vs, hp1, hσ1, hH1, hR⟩ := hs1.ownL (List.contains_iff_mem.mp hO) er
        rw [hσ] at hσ1
        cases hσ1
        obtain ⟨w, hw, hwr⟩ := hR.get eat2
        have hlen := hR.len
        refine ⟨p, vs, ki, w, rfl, rfl, .inl (.inl hH1), by unfold atI; rw [hlen, q]; exact hw, ?_⟩
        refine (sndET e).1 hx.toSX hck hs1 (Sat.mono (Sat.bind h3) (fun d2 _ h4 y H2 s2 r2 => ?_) fun z hz => hz.e hs1.same)
        obtain ⟨n1, n2, rfl, rfl, h5⟩ := ints2 hb h4
        have hs2 := hs1.grow s2
        obtain ⟨p3, vs3, hp3, hσ3, hH3, hR3⟩ := hs2.ownL (List.contains_iff_mem.mp hO) er
        rw [hσ] at hσ3
        cases hσ3
        have hlen3 := hR3.len
        obtain ⟨l2, e2, h6⟩ := Sat.val (Sat.bind h5) fun z => setD_ex
        unfold setD at e2
        dsimp only at e2
        rw [q] at e2
        cases e2
        obtain ⟨a1, a2⟩ := hs2.write hp3 er (Reps.set (d := .int _) (v := .int _) j hR3 rfl)
        exact ⟨n1, n2, hwr, (r2.repT (hs1.trk _)).int, p, vs3, ki, j, rfl, rfl, hH3, by rw [hlen3]; exact q, (show FlQ X.K fr Mc H0 o _ P H D (.nx _) from h6) _ _ _ a1 (((Stp.same s1).trans (Stp.same s2)).trans a2)⟩
  · cases how
theorem sY_expr {e : IE} : SndY c n G fr (.expr e) := by
  intro T W sc X a o O O' hx hc how Mc H0 H P r σ hs D h
  have hc : (match shExpr a with | some (v, pos) => (!isComp v && ckE c X.N sc e v) | none => false) = true := hc
  cases es : shExpr a with
  | none => rw [es] at hc; exact Bool.noConfusion hc
  | some q =>
  obtain ⟨v, pos⟩ := q
  rw [es] at hc
  obtain rfl := shExpr_ok es
  clear es
  have hc : (!isComp v && ckE c X.N sc e v) = true := hc
  rw [Bool.and_eq_true, Bool.not_eq_true'] at hc
  cases (show some O = some O' from how)
  refine PS.ws (ps_expr pe_we (sw_no hc.1)) ?_
  refine (sndET e).1 hx.toSX hc.2 hs (Sat.mono (Sat.bind (show Sat ((evE T G e r).bind fun _ => R.ok (Fl.nx r)) _ _ from h)) (fun d _ h1 xv H1 s1 r1 => ?_) fun z hz => hz)
  exact (show FlQ X.K fr Mc H0 o _ P H D (.nx _) from h1) _ _ _ (hs.grow s1) (Stp.same s1)
theorem sX_expr {e : IE} : SndX c n G fr (.expr e) := sY_expr.x
theorem bind_ok {α β : Type} {x : R α} {f : α → R β} {b : β} (h : x.bind f = .ok b) : ∃ a, x = .ok a ∧ f a = .ok b := by
  cases x with
  | ok a => exact ⟨a, rfl, h⟩
  | ex z => cases h
  | no => cases h
theorem blR_nl {x : R Bool} {d : D} (h : blR x = .ok d) : mutk d = false := by
  obtain ⟨b, _, h⟩ := bind_ok h
  cases h; rfl
theorem nlS_ev {T : List (Str × D)} {r : En} : ∀ {es : Es} {xs : List D}, nlS es = true → evEs T G es r = .ok xs → ∀ x ∈ xs, mutk x = false
  | .nil, xs, _, he => by
    have he : R.ok [] = R.ok xs := he
    injection he with he
    subst he
    intro x hx; cases hx
  | .cons e es, xs, h, he => by
    have h : (nlC e && nlS es) = true := h
    rw [Bool.and_eq_true] at h
    obtain ⟨y, h1, he⟩ := bind_ok (show (evE T G e r).bind (fun x => (evEs T G es r).bind fun xs => R.ok (x :: xs)) = .ok xs from he)
    obtain ⟨ys, h2, he⟩ := bind_ok he
    injection he with he
    subst he
    intro x hx
    (rcases List.mem_cons.mp hx with rfl | hx)
    · have q := h.1
      cases e with
      | con d0 =>
        have h1 : R.ok d0 = R.ok x := h1
        injection h1 with h1
        subst h1
        have q : (!mutk d0) = true := q
        simpa using q
      | _ => exact Bool.noConfusion q
    · exact nlS_ev h.2 h2 x hx
theorem nl_ev {T : List (Str × D)} {e : IE} {r : En} {d : D} (h : nlE e = true) (he : evE T G e r = .ok d) : mutk d = false := by
  cases e with
  | con d0 =>
    have he : R.ok d0 = R.ok d := he
    injection he with he
    subst he
    cases d0 <;> first | rfl | cases h
  | cmp o a b =>
    obtain ⟨x, _, h⟩ := bind_ok he
    obtain ⟨y, _, h⟩ := bind_ok h
    exact blR_nl h
  | cmp2 o p a b c =>
    obtain ⟨x, _, h⟩ := bind_ok he
    obtain ⟨y, _, h⟩ := bind_ok h
    obtain ⟨k, _, h⟩ := bind_ok h
    cases k with
    | true =>
      have h : (evE T G c r).bind (fun z => blR (cmpD p y z)) = R.ok d := h
      obtain ⟨z, _, h⟩ := bind_ok h
      exact blR_nl h
    | false =>
      have h : R.ok (D.bl false) = R.ok d := h
      cases h; rfl
  | cmp3 o p q a b c e =>
    obtain ⟨x, _, h⟩ := bind_ok he
    obtain ⟨y, _, h⟩ := bind_ok h
    obtain ⟨k, _, h⟩ := bind_ok h
    cases k with
    | true =>
      have h : (evE T G c r).bind (fun z => (cmpD p y z).bind fun k2 => if k2 = true then (evE T G e r).bind fun u => blR (cmpD q z u) else .ok (.bl false)) = R.ok d := h
      obtain ⟨z, _, h⟩ := bind_ok h
      obtain ⟨k2, _, h⟩ := bind_ok h
      cases k2 with
      | true =>
        have h : (evE T G e r).bind (fun u => blR (cmpD q z u)) = R.ok d := h
        obtain ⟨u, _, h⟩ := bind_ok h
        exact blR_nl h
      | false =>
        have h : R.ok (D.bl false) = R.ok d := h
        cases h; rfl
    | false =>
      have h : R.ok (D.bl false) = R.ok d := h
      cases h; rfl
  | not a =>
    obtain ⟨x, _, h⟩ := bind_ok he
    obtain ⟨b, _, h⟩ := bind_ok h
    cases h; rfl
  | tup es =>
    obtain ⟨xs, _, h⟩ := bind_ok he
    cases h; rfl
  | sub a i =>
    cases a <;> first | cases h | skip
    rename_i es
    obtain ⟨x, h1, h2⟩ := bind_ok he
    obtain ⟨xs, h3, h1⟩ := bind_ok (show (evEs T G es r).bind (fun xs => R.ok (D.lst xs)) = .ok x from h1)
    injection h1 with h1
    subst h1
    obtain ⟨y, _, h2⟩ := bind_ok h2
    have key := nlS_ev (show nlS es = true from h) h3
    cases y with
    | int k =>
      have h2 : (match atI xs k with | some d => R.ok d | none => .no) = .ok d := h2
      cases q : atI xs k with
      | none => rw [q] at h2; cases h2
      | some z =>
        rw [q] at h2
        injection h2 with h2
        subst h2
        refine key _ ?_
        unfold atI at q
        cases q2 : ixN xs.length k with
        | none => rw [q2] at q; cases q
        | some j => rw [q2] at q; exact List.mem_of_getElem? q
    | _ => exact nomatch h2
  | isi a t =>
    obtain ⟨x, _, h⟩ := bind_ok he
    exact blR_nl h
  | _ => cases h
theorem sY_ret {e : IE} : SndY c n G fr (.ret e) := by
  intro T W sc X a o O O' hx hc how Mc H0 H P r σ hs D h
  have hc : (match shRet a with | some (v, pos) => ckE c X.N sc e v | none => false) = true := hc
  cases es : shRet a with
  | none => rw [es] at hc; exact Bool.noConfusion hc
  | some q =>
  obtain ⟨v, pos⟩ := q
  rw [es] at hc
  obtain rfl := shRet_ok es
  clear es
  have hck : ckE c X.N sc e v = true := hc
  have how : (if !fr || (nlE e || frE c e || ownV O e) then some O else none) = some O' := how
  have h : Sat ((evE T G e r).bind fun x => R.ok (Fl.rt x)) (FlQ X.K fr Mc H0 o O' P H D) (exE c.xc X.K W σ H) := h
  split at how
  · rename_i hf
    refine PS.ws (ps_ret pe_we) ?_
    have go : (∀ d v H1, evE T G e r = .ok d → Same H H1 → Res X.K (frE c e) (MM Mc P (etE e)) (MM Mc P (eiE e)) H H1 d v → Res X.K fr Mc Mc H0 H1 d v) → WE X v σ H D.rt := fun k =>
      (sndET e).1 hx.toSX hck hs (Sat.mono (Sat.bind h) (fun d ed h1 xv H1 s1 r1 => (show FlQ X.K fr Mc H0 o O' P H D (.rt d) from h1) _ _ (hs.same.trans s1) (k d xv H1 ed s1 r1)) fun z hz => hz)
    cases fr with
    | false =>
      exact go fun d v H1 _ s1 r1 => (show RepT X.K Mc Mc H1 d v from (r1.repT (hs.trk _)).less (fun a z => .inl z) fun a z => .inl z)
    | true =>
      cases fn : nlE e with
      | true =>
        refine go fun d v H1 ed s1 r1 => ?_
        have q : RepT X.K Mc Mc H1 d v := (r1.repT (hs.trk _)).less (fun a z => .inl z) fun a z => .inl z
        have nm := nl_ev fn ed
        show FrT X.K Mc H0 H1 d v
        cases d <;> first | exact q | cases nm
      | false =>
      rw [fn, Bool.false_or] at hf
      cases f : frE c e with
      | true =>
        rw [f] at go
        exact go fun d v H1 _ s1 r1 => (show FrT X.K Mc H0 H1 d v from (FrT.less (fun a z => .inl z) (show FrT X.K (MM Mc P (eiE e)) H H1 d v from r1)).back hs.same)
      | false =>
        rw [f] at hf
        obtain ⟨i, rfl⟩ : ∃ i, e = .var i := by cases e <;> first | exact ⟨_, rfl⟩ | exact Bool.noConfusion hf
        have hi : i ∈ O := List.contains_iff_mem.mp (show O.contains i = true from hf)
        obtain ⟨x, p, rfl, hN, hv, hn⟩ := iv_var hck
        obtain ⟨d, ed, h1⟩ := Sat.val (Sat.bind h) fun z (q : r.at i = _) => En.at_ex q
        obtain ⟨n1, n2⟩ := nmB_ok hn
        obtain ⟨u, hσ, hsl, hown⟩ := hs.slot i d (En.at_ok ed)
        refine PE.we (pe_var hN (hx.toSX.vis hv) n1 n2) ⟨u, hσ, (show FlQ X.K true Mc H0 o O' P H D (.rt d) from h1) _ _ hs.same ?_⟩
        show FrT X.K Mc H0 H d u
        cases q : P i with
        | none =>
          rw [q] at hsl
          cases d <;> first
            | (exfalso; obtain ⟨a, ha⟩ := hown hi rfl; rw [q] at ha; cases ha)
            | exact Rep.less (M := MM Mc P []) (fun a z => .inl z) hsl
        | some a =>
          rw [q] at hsl
          obtain ⟨hn0, _, _, _⟩ := hs.new i a q
          have lm : ∀ b, (Mc b ∨ b = a) → MM Mc P [] b := fun b z => by
            rcases z with z | z
            · exact .inl z
            · exact .inr ⟨i, by simp, by rw [z]; exact q⟩
          cases d <;> first
            | exact hsl.elim
            | (obtain ⟨e, vs, h3, h4⟩ := hsl; exact ⟨a, vs, e, hn0, h3, Reps.less lm h4⟩)
            | (obtain ⟨e, vs, h3, h5, h4⟩ := hsl; exact ⟨a, vs, e, hn0, h3, h5, Reps.less lm h4⟩)
  · cases how
theorem sX_ret {e : IE} : SndX c n G fr (.ret e) := sY_ret.x
theorem sX_retN : SndX c n G fr .retN := by
  intro T W sc X a o O O' hx hc how Mc H0 H P r σ hs D h
  obtain ⟨q, es⟩ := Option.isSome_iff_exists.mp (show (shRetN a).isSome = true from hc)
  obtain rfl := shRetN_ok es
  clear es
  refine PS.ws ps_retN ((show FlQ X.K fr Mc H0 o O' P H D (.rt .non) from h) _ _ hs.same ?_)
  cases fr <;> exact (rfl : V.non = V.non)
theorem sX_brk : SndX c n G fr .brk := by
  intro T W sc X a o O O' hx hc how Mc H0 H P r σ hs D h
  obtain ⟨q, es⟩ := Option.isSome_iff_exists.mp (show (shBrk a).isSome = true from hc)
  obtain rfl := shBrk_ok es
  clear es
  have how : (if subL o O then some O else none) = some O' := how
  split at how
  · rename_i q
    obtain ⟨P', s1, st⟩ := hs.only (subL_ok q)
    exact PS.ws ps_break ((show FlQ X.K fr Mc H0 o O' P H D (.bk r) from h) _ _ _ s1 st)
  · cases how
theorem sX_cont : SndX c n G fr .cont := by
  intro T W sc X a o O O' hx hc how Mc H0 H P r σ hs D h
  obtain ⟨q, es⟩ := Option.isSome_iff_exists.mp (show (shCont a).isSome = true from hc)
  obtain rfl := shCont_ok es
  clear es
  have how : (if subL o O then some O else none) = some O' := how
  split at how
  · rename_i q
    obtain ⟨P', s1, st⟩ := hs.only (subL_ok q)
    exact PS.ws ps_continue ((show FlQ X.K fr Mc H0 o O' P H D (.ct r) from h) _ _ _ s1 st)
  · cases how
theorem sX_pass : SndX c n G fr .pass := by
  intro T W sc X a o O O' hx hc how Mc H0 H P r σ hs D h
  obtain ⟨q, es⟩ := Option.isSome_iff_exists.mp (show (shPass a).isSome = true from hc)
  obtain rfl := shPass_ok es
  clear es
  cases (show some O = some O' from how)
  exact PS.ws ps_pass ((show FlQ X.K fr Mc H0 o O P H D (.nx r) from h) _ _ _ hs (Stp.same (Same.refl H)))
theorem sX_never : SndX c n G fr .never := fun {_ _ _ _ _ _ _ _} _ _ _ {_ _ _ _ _ _} _ {_} h => (show False from h).elim
theorem sX_ext {x : Nat} {e : IE} : SndX c n G fr (.ext x e) := fun {_ _ _ _ _ _ _ _} _ _ how {_ _ _ _ _ _} _ {_} _ => by cases (show none = some _ from how)
theorem sX_popSub {x y : Nat} {e : IE} : SndX c n G fr (.popSub y x e) := by
  intro T W sc X a o O O' hx hc how Mc H0 H P r σ hs D h
  have hc : (match shPS a with | some ((z, _), (w, _, m, apos, cpos), ix, _, _) => decide (m = "pop") && ((apos.endLine == cpos.line) && (decide (X.N[x]? = some w) && ((visB sc w && nmB w) && (decide (X.N[y]? = some z) && (locC sc z && (isCon e && ckE c X.N sc e ix)))))) | none => false) = true := hc
  cases es : shPS a with
  | none => rw [es] at hc; exact Bool.noConfusion hc
  | some q =>
  obtain ⟨⟨z, pz⟩, ⟨w, wp, m, apos, cpos⟩, ix, ps, pos⟩ := q
  rw [es] at hc
  obtain rfl := shPS_ok es
  clear es
  have hc : (decide (m = "pop") && ((apos.endLine == cpos.line) && (decide (X.N[x]? = some w) && ((visB sc w && nmB w) && (decide (X.N[y]? = some z) && (locC sc z && (isCon e && ckE c X.N sc e ix))))))) = true := hc
  rw [Bool.and_eq_true, Bool.and_eq_true, Bool.and_eq_true, Bool.and_eq_true, Bool.and_eq_true, Bool.and_eq_true, Bool.and_eq_true, Bool.and_eq_true, decide_eq_true_eq, decide_eq_true_eq, decide_eq_true_eq] at hc
  obtain ⟨rfl, hl, hN, ⟨hv, hn⟩, hNz, hlz, hk, hck⟩ := hc
  obtain ⟨k, rfl⟩ : ∃ k, e = .con (.int k) := by
    unfold isCon at hk
    split at hk
    · exact ⟨_, rfl⟩
    · cases hk
  have how : (if O.contains x && !decide (x = y) then some (offO O [y]) else none) = some O' := how
  split at how
  · rename_i hO
    cases how
    rw [Bool.and_eq_true, Bool.not_eq_true', decide_eq_false_iff_not] at hO
    obtain ⟨k', j', p', rfl, _⟩ := iv_con hck
    refine PS.ws (ps_set hx.nd hNz (locC_ok hx.scope hlz) (pe_ix (ix_sub (Mi := MM Mc P []) (by have := hx.hu; omega)) (pe_bm0 PySem.F.plainAttrs_list PySem.F.slot_list_pop PySem.F.type_list_pop mt_pop (nm_pe hx.toSX hN hv hn) rfl hl) pe_we (fun o i => rfl)) (sw_no rfl) (.inl (hx.fnT z))) ?_
    have h : Sat ((r.at x).bind fun l => (popD l).bind fun p => (R.ok (PL.D.int k)).bind fun k => (subD p.1 k).bind fun u => R.ok (Fl.nx ((r.set x (some p.2)).set y (some u)))) (FlQ X.K fr Mc H0 o _ P H D) (exS c.xc X.K W H0) := h
    obtain ⟨ds, er, h⟩ := at_listO h fun d => by cases d <;> first | exact .inl ⟨_, rfl⟩ | exact .inr rfl
    have h : Sat ((match ds.getLast? with | some y => R.ok (y, PL.D.lst ds.dropLast) | none => .no).bind fun p => (subD p.1 (.int k)).bind fun u => R.ok (Fl.nx ((r.set x (some p.2)).set y (some u)))) (FlQ X.K fr Mc H0 o _ P H D) (exS c.xc X.K W H0) := h
    cases q : ds.getLast? with
    | none => rw [q] at h; exact h.elim
    | some d =>
      rw [q] at h
      have h : Sat ((subD d (.int k)).bind fun u => R.ok (Fl.nx ((r.set x (some (.lst ds.dropLast))).set y (some u)))) (FlQ X.K fr Mc H0 o _ P H D) (exS c.xc X.K W H0) := h
      obtain ⟨u, eu, h⟩ := Sat.val (Sat.bind h) fun z => subD_ex
      obtain ⟨p, vs, hp, hσ, hH, hR⟩ := hs.ownL (List.contains_iff_mem.mp hO.1) er
      have hlen := hR.len
      have q2 : ds[ds.length - 1]? = some d := by rw [← List.getLast?_eq_getElem?]; exact q
      obtain ⟨v0, hv0, hr0⟩ := hR.get q2
      have hR' : Reps X.K (MM Mc P []) H ds.dropLast vs.dropLast := by
        rw [List.dropLast_eq_take, List.dropLast_eq_take, hlen]
        exact hR.take _
      obtain ⟨a1, a2⟩ := hs.write hp er hR'
      have gw : Gr X.K (MM Mc P []) H (MM Mc P []) (upd H p (.lst vs.dropLast)) := Gr.write (.inr ⟨x, by simp, hp⟩) hH (fun _ z => nomatch z) fun _ _ z => nomatch z
      refine ⟨.ref p, hσ, tyL hH, p, vs, v0, rfl, rfl, hH, by rw [hlen]; exact hv0, ?_⟩
      refine (sndET (.con (.int k))).1 hx.toSX hck a1 (show okE X.K false (MM Mc P []) (MM Mc P []) _ _ (PL.D.int k) from fun kv H2 s2 rk => ?_)
      refine ⟨d, .int k, u, ((RepT.of (Rep.gr gw _ _ hr0)).less (fun _ z => z.elim) fun _ z => z).same s2, ?_, eu, fun v2 rv2 => ?_⟩
      · exact (rk.repT (a1.trk _)).free
      · have a3 := ((a1.grow s2).drop [y]).set (i := y) (d := u) (v := v2) (if_pos (List.mem_singleton.mpr rfl)) (fun z => (mem_offO.mp z).2 (List.mem_singleton.mpr rfl)) (rv2.less (MM.off fun i hi => by cases hi))
        exact (show FlQ X.K fr Mc H0 o _ P H D (.nx _) from h) _ _ _ a3 ((a2.trans (Stp.same s2)).trans (Stp.off _))
  · cases how
theorem sX_popk {x y : Nat} {k : IE} : SndX c n G fr (.popk y x k) := by
  intro T W sc X a o O O' hx hc how Mc H0 H P r σ hs D h
  have hc : (match shPk a with | some ((z, _), (w, _, m, apos, cpos), q, _) => decide (m = "pop") && ((apos.endLine == cpos.line) && (decide (X.N[x]? = some w) && ((visB sc w && nmB w) && (decide (X.N[y]? = some z) && (locC sc z && ckE c X.N sc k q))))) | none => false) = true := hc
  cases es : shPk a with
  | none => rw [es] at hc; exact Bool.noConfusion hc
  | some q =>
  obtain ⟨⟨z, pz⟩, ⟨w, wp, m, apos, cpos⟩, q, pos⟩ := q
  rw [es] at hc
  obtain rfl := shPk_ok es
  clear es
  have hc : (decide (m = "pop") && ((apos.endLine == cpos.line) && (decide (X.N[x]? = some w) && ((visB sc w && nmB w) && (decide (X.N[y]? = some z) && (locC sc z && ckE c X.N sc k q)))))) = true := hc
  rw [Bool.and_eq_true, Bool.and_eq_true, Bool.and_eq_true, Bool.and_eq_true, Bool.and_eq_true, Bool.and_eq_true, Bool.and_eq_true, decide_eq_true_eq, decide_eq_true_eq, decide_eq_true_eq] at hc
  obtain ⟨rfl, hl, hN, ⟨hv, hn⟩, hNz, hlz, hck⟩ := hc
  have how : (if O.contains x && !decide (x = y) then some (offO O [y]) else none) = some O' := how
  split at how
  · rename_i hO
    cases how
    rw [Bool.and_eq_true, Bool.not_eq_true', decide_eq_false_iff_not] at hO
    have ne : ∀ z p, q ≠ .Starred z p := fun z p e => by subst e; rw [ckE_star] at hck; cases hck
    have s0 := star_of (es := []) (env := X.env) ne
    refine PS.ws (ps_set hx.nd hNz (locC_ok hx.scope hlz) (pe_dpop1 (nm_pe hx.toSX hN hv hn) pe_we ⟨rfl, by rw [s0]; rfl, hl, by rw [s0]; rfl⟩) (sw_no rfl) (.inl (hx.fnT z))) ?_
    have h : Sat ((r.at x).bind fun l => (dctD l).bind fun l => (evE T G k r).bind fun d => (popkD l d).bind fun p => R.ok (Fl.nx ((r.set x (some p.2)).set y (some p.1)))) (FlQ X.K fr Mc H0 o _ P H D) (exS c.xc X.K W H0) := h
    obtain ⟨l, el, h⟩ := Sat.val (Sat.bind h) fun z => En.at_ex
    obtain ⟨l', ed, h5⟩ := Sat.val (Sat.bind h) fun z => dctD_ex
    obtain ⟨rfl, hdd⟩ := dctD_ok ed
    have hmu : mutk l' = true := by rcases hdd with ⟨_, _, rfl⟩ | ⟨_, _, rfl⟩ <;> rfl
    have hisd : ∀ {H2 : Hp} {M : AS} {p : Addr}, Slt X.K M H2 (some p) l' (.ref p) → IsD H2 p := fun {H2 M p} q => by
      rcases hdd with ⟨_, _, rfl⟩ | ⟨_, _, rfl⟩
      · obtain ⟨_, vs, e, _⟩ := q; exact .inl ⟨_, .inl e⟩
      · obtain ⟨_, vs, e, _⟩ := q; exact .inr ⟨_, .inl e⟩
    obtain ⟨p0, hσ0, hS0, _, _⟩ := own_inG hs (Same.refl H) (L := []) hO.1 rfl (En.at_ok el) hmu
    refine ⟨.ref p0, hσ0, p0, rfl, hisd hS0, ?_⟩
    refine (sndET k).1 hx.toSX hck hs (Sat.mono (Sat.bind h5) (fun d _ h2 kv H2 s2 k1 => ?_) fun z hz => hz.e hs.same)
    obtain ⟨pr, ep, h3⟩ := Sat.val (Sat.bind h2) fun z => popkD_ex
    obtain ⟨p, hσ, hS, hp, fin⟩ := own_inG hs s2 (L := []) hO.1 rfl (En.at_ok el) hmu
    rw [hσ0] at hσ
    cases hσ
    cases l' <;> first | cases ep | skip
    rename_i ks ds
    obtain ⟨_, vs, hH, hnn, rs⟩ := hS
    have ep : (match kyOf d with | some k => (match lookK ks ds k with | some v => R.ok (v, PL.D.dK (dropKK ks k) (dropKD ks ds k)) | none => .no) | none => .no) = .ok pr := ep
    cases q1 : kyOf d with
    | none => rw [q1] at ep; cases ep
    | some k' =>
    rw [q1] at ep
    have ep : (match lookK ks ds k' with | some v => R.ok (v, PL.D.dK (dropKK ks k') (dropKD ks ds k')) | none => .no) = .ok pr := ep
    cases q2 : lookK ks ds k' with
    | none => rw [q2] at ep; cases ep
    | some d' =>
    rw [q2] at ep
    cases ep
    have ey : kv = kV k' := kyOf_v (M := F0) q1 ((k1.repT (hs.trk _)).free).rep
    obtain ⟨v0, hv0, rv0⟩ := (val_rep (K := X.K) k' hnn rs).1 _ q2
    have gw : ∀ o', Gr X.K (MM Mc (offP P []) []) H2 (MM Mc (offP P []) []) (upd H2 p0 o') := fun o' => Gr.write hp hH (fun _ z => nomatch z) fun _ _ z => nomatch z
    have hvl := rs.len
    have dz := dropK_zip (ks := ks) (us := vs) k' (by omega)
    obtain ⟨a1, a2⟩ := fin (.dK (dropKK ks k') (dropKD ks ds k')) (.dK (dropK (ks.zip vs) k')) trivial (by
      rw [dz]
      exact ⟨rfl, _, upd_same, dropKK_len k' hnn, Reps.gr (gw _) _ _ (Reps.dropKD rs)⟩)
    refine ⟨_, k', v0, hH, ey, hv0, ?_⟩
    have a3 := (a1.drop [y]).set (i := y) (d := d') (v := v0) (if_pos (List.mem_singleton.mpr rfl)) (fun z => (mem_offO.mp z).2 (List.mem_singleton.mpr rfl)) ((Rep.gr (gw _) _ _ rv0).less (MM.off fun i hi => by cases hi))
    have a4 := a3.congr (O' := offO O [y]) fun i => by rw [mem_offO, mem_offO, mem_offO]; simp
    exact (show FlQ X.K fr Mc H0 o _ P H D (.nx _) from h3) _ _ _ a4 (a2.trans (Stp.off _))
  · cases how
end
end PL

namespace PL
open L2 PyProof.Rows PySem.Spec PySem
/-- C(e), C's own __init__ walked -/
theorem pmkN_oex {X : Cx} {CX : CXT} {x : Str} {e : Expr} {ta : TA} {p pos : Pos} {C fI : Addr} {k : Nat} {fd : FuncData} {ps : List Str} {sp : Sp} (T : OexC X.K C) (iC : PySem.W.findIn X.K (.ref C) "__init__" = some (some (.ref fI))) (tI : PySem.W.typeIn X.K (.ref fI) = some (.type "function"))
    (F1 : FnOk X.prog X.w X.K X.mg X.base CX k fI fd ps sp) (hr : Room (k + 1) X.A) (hb : Binds X.K fd ps []) (hx : Passes CX X (fun _ _ _ => False)) (hg : Gl X x) (hm : X.mg x = some (.ref C)) (ha : PA X [e] ta)
    (hdb : (x == ("__debug__" : Str)) = false) (he : starEach [e] X.env = (false, eval e X.env) :: starEach [] X.env) : L2N.PMk X (.Call (.Name x p) [e] [] pos) (tMkO C sp [] ta) := by
  intro pins s σ H Q I h
  (obtain ⟨nm, q, N, bs, bm, sn, sub, ab, col, dd, k0, k1, k2, k3, k5, hC, hbm⟩ := T.cls)
  (refine wpAny_Call_Name_kw (ld_glob I hg hm ?_ hdb))
  refine PySem.W.callWith_K (h₀ := X.base) I.ok.mod.kin T.kC (thn (ha.run pos pins s σ H _ I h) fun us s1 ⟨vs, H1, I1, r1, hz, q1⟩ => ⟨I1.kIn, ?_⟩) he (by rfl)
  (show wpAny _ _ (call (.ref C) us) _ _ _)
  (obtain ⟨hp, g, dr, tk, os⟩ := s1)
  (have hsz : hp.objs.size ≤ hp.objs.size + 1 := Nat.le_succ _)
  (have hn : H1 (hp.objs.size + 1) = none := I1.hok.fresh hsz)
  (have hq := q1 (hp.objs.size + 1) hn)
  rw [List.append_nil] at hq
  let h9 : Heap := (hp.push (PySem.W.kdv_tup us)).push (PySem.HandSPX.excO C hp.objs.size)
  have kk : ∀ b o, hp.get? b = some o → h9.get? b = some o := fun b o e => Heap.get?_push_of_some _ (Heap.get?_push_of_some _ e)
  have hget : h9.get? (hp.objs.size + 1) = some (PySem.HandSPX.excO C hp.objs.size) := by
    show ((hp.push (PySem.W.kdv_tup us)).push (PySem.HandSPX.excO C hp.objs.size)).get? (hp.objs.size + 1) = _
    heap_get
  have I2 : Inv X pins σ (upd H1 (hp.objs.size + 1) (exo (hp.objs.size + 1) C none)) ⟨h9, g, dr, tk, os⟩ := I1.laid (t' := tk) (a := hp.objs.size + 1) (o := exo (hp.objs.size + 1) C none) (h' := h9) kk hsz (exo_ok hget)
  (have r2 : Vals (V.ref (hp.objs.size + 1) :: vs) (Value.ref (hp.objs.size + 1) :: us) := .cons rfl r1)
  have hl : ((Value.ref (hp.objs.size + 1) :: us ++ []).length = ps.length) := by
    have e := r2.length
    rw [F1.len _ _ _ _ hq] at e
    rw [List.append_nil]
    exact e.symm
  have hus : (us.length ≤ sizeLine) := by
    (rw [← Paired.length r1, sizeLine_eq])
    omega
  (have b2 := hb _ (Value.ref (hp.objs.size + 1) :: us) I2.kIn hl)
  rw [List.append_nil] at b2
  refine wpAny_call (PySem.HandSPX.call_own F.excBase_ValueError (fun Y => PySem.HandSPX.refsVE_contains Y bm hbm) (I1.kIn _ _ hC) (PySem.W.looks_findIn I1.kIn iC) (fun self => PySem.W.bind_fn I1.kIn self tI) hus (codeAny_mono (F1.run _ X.stack _ _ ⟨Value.ref (hp.objs.size + 1) :: us, []⟩ (Value.ref (hp.objs.size + 1) :: us) _ _ (fun _ _ _ => False) (hr.make C us []) (I2.env0.make C us []) b2 r2 hq) fun r s' hq' => ?_))
  cases r with
  | error er => (exact hx pins σ _ _ er s' I2 hq')
  | ok fl =>
    cases fl with
    | next => (exact False.elim hq')
    | brk => exact False.elim hq'
    | cont => (exact False.elim hq')
    | ret u =>
      (obtain ⟨v, H2, os2, bare2, un2, hok2, rv, ev, d, fs, ea, ed, hd1, q2⟩ := hq')
      subst ev
      (obtain ⟨h2, g2, d2, t2, os'⟩ := s')
      (obtain ⟨t0, G, J, kG, ge, hoe, na⟩ := mk_end0 (d2 := d2) (t2 := t2) I1 hsz kk un2 hok2 os2 bare2 ea ed hd1)
      refine ⟨rv, ⟨hp.objs.size + 1, _, _, ⟨G, g2, d2, t2, os'⟩, _, .ref C, some d, rfl, J, kG, ge, hoe, ⟨rfl, rfl, fun vs hv => ?_⟩, rfl, rfl, na, rfl, bare2, raises_own T.exC T.tyC, q2⟩⟩
      cases hv
      rfl
section
variable {c : Ck} {n : Nat} {G : Ga} {fr : Bool}
theorem raisA_none {N : List Str} {sc : Scope} {e : IE} {l : List Expr} (h : raisA c N sc none e l = true) : ∃ m j p, l = [.Constant (.str m) j p] ∧ ∃ d, e = .con d := by
  unfold raisA at h
  split at h
  · split at h
    · rename_i h0 _ _
      exact ⟨_, _, _, rfl, _, rfl⟩
    · rename_i h0
      cases h0
    · cases h
  · cases h
theorem raisA_some {N : List Str} {sc : Scope} {e : IE} {l : List Expr} {g : Str} (h : raisA c N sc (some g) e l = true) : ∃ a, l = [a] ∧ ckE c N sc e a = true := by
  unfold raisA at h
  split at h
  · exact ⟨_, rfl, h⟩
  · cases h
theorem sX_rais {x : Str} {f : Option Str} {e : IE} : SndX c n G fr (.rais x f e) := by
  intro T W sc X a o O O' hx hc how Mc H0 H P r σ hs D h
  have hc : (match shRaise a with | some (y, _, l, _, _) => !c.hot && (decide (x = y) && (glB sc x && (nmB x && (c.xc.contains (x, f) && raisA c X.N sc f e l)))) | none => false) = true := hc
  cases es : shRaise a with
  | none => rw [es] at hc; exact Bool.noConfusion hc
  | some q =>
  obtain ⟨y, p1, l, p, pos⟩ := q
  rw [es] at hc
  obtain rfl := shRaise_ok es
  clear es
  have hc : (!c.hot && (decide (x = y) && (glB sc x && (nmB x && (c.xc.contains (x, f) && raisA c X.N sc f e l))))) = true := hc
  simp only [Bool.and_eq_true, Bool.not_eq_true', decide_eq_true_eq] at hc
  obtain ⟨h0, rfl, hg, hn, hm, ha⟩ := hc
  have hm : (x, f) ∈ c.xc := List.contains_iff_mem.mp hm
  have K0 := hx.xc _ _ hm
  have hdb := (nmB_ok hn).1
  have h : Sat ((evE T G e r).bind fun v => raisD x f v) (FlQ X.K fr Mc H0 o O' P H D) (exS c.xc X.K W H0) := h
  cases f with
  | none =>
    obtain ⟨m, j, p2, rfl, d, rfl⟩ := raisA_none ha
    have hw : W (.ref (He.ga X.K x)) none σ H := (show exS c.xc X.K W H0 (.ex x []) from h) σ H _ _ hs.same ⟨⟨none, hm⟩, rfl, rfl⟩
    exact PS.ws (L2N.ps_raise (hx.calm h0) hx.tk (L2N.pmk_own PySem.F.excBase_ValueError (K0.exc rfl) K0.mg K0.keep (raises_own K0.exB K0.typ) (hx.gl hg) hdb)) hw
  | some g =>
      obtain ⟨a, rfl, ha⟩ := raisA_some ha
      obtain ⟨hno, hne, fI, fd, ps, To, iC, tI, hb, F1⟩ := K0.fld g rfl
      have s0 := star1 ha [] X.env
      refine PS.ws (L2N.ps_raise (hx.calm h0) hx.tk (pmkN_oex To iC tI F1 ((hx.room h0).mono (by omega)) hb (L2N.passes_call hx.tk (fun _ _ _ _ z => z.elim)) (hx.gl hg) K0.mg (pa_cons pe_we pa_nil s0) hdb s0)) ?_
      refine (sndET e).1 hx.toSX ha hs (Sat.mono (Sat.bind h) (fun d _ h1 v H1 s1 r1 => ?_) fun z hz => hz.e hs.same)
      have h1 : Sat (if flat d = true then R.ex (.ex x [.str g, d]) else .no) (FlQ X.K fr Mc H0 o O' P H D) (exS c.xc X.K W H0) := h1
      split at h1
      case isFalse => exact h1.elim
      rename_i hf
      have h1 : exS c.xc X.K W H0 (.ex x [.str g, d]) := h1
      refine ⟨by show (1 : Nat) ≤ 1000; omega, fun b hb0 => ⟨b, v, rfl, upd_same, fun dx hd1 hd2 => ⟨rfl, dx, [(g, v)], upd_same, ?_, ?_, ?_⟩⟩⟩
      · rw [upd_ne hd2, upd_same]
      · rw [upd_ne hd2] at hd1; exact hd1
      · have hdx : H1 dx = none := by rw [upd_ne hd2] at hd1; exact hd1
        have sm : Same H1 (upd (del (upd (upd (upd H1 b (exo b (He.ga X.K x) none)) dx (exd dx [(g, v)])) b (exo b (He.ga X.K x) (some dx))) b) dx (.xd [(g, v)])) := fun c' o' e' => by
          have n1 : c' ≠ dx := ne_of_none e' hdx
          have n2 : c' ≠ b := ne_of_none e' hb0
          rw [upd_ne n1, del_ne n2, upd_ne n2, upd_ne n1, upd_ne n2]
          exact e'
        refine h1 σ _ _ _ (hs.same.trans (s1.trans sm)) ⟨hm, rfl, hf, dx, v, rfl, upd_same, ?_⟩
        exact (RepT.flat hf ((r1.repT (hs.trk _)).same sm))
end
end PL

namespace PL
open L2 PyProof.Rows PySem.Spec PySem

section
variable {K : PySem.W.Frag} {Mc : AS} {H0 H H1 : Hp} {O O' x : List Nat} {P P1 : Nat → Option Addr} {r : En} {σ : L2.St} {fr : Bool} {o : List Nat} {D : Ends} {fl : Fl}
theorem SR.only2 (s : SR K Mc H0 O P r σ H) (h : ∀ i, i ∈ O' → i ∈ O) : ∃ P', SR K Mc H0 O' P' r σ H ∧ Stp P H P' H ∧ ∀ i a, P' i = some a → P i = some a := by
  refine ⟨_, (s.drop (O.filter fun i => !(O'.contains i))).congr fun i => ?_, Stp.off _, fun i a e => (offP_some e).2⟩
  rw [mem_offO, List.mem_filter]
  constructor
  · rintro ⟨a, b⟩
    by_cases q : i ∈ O'
    · exact q
    · exact absurd ⟨a, by simp [q]⟩ b
  · intro a
    exact ⟨h i a, fun ⟨_, b⟩ => by simp [a] at b⟩
theorem FlQ.conv (g : Stp P H P1 H1) (hs : ∀ r', fl = .nx r' → ∀ i, i ∈ O' → i ∈ x) (q : FlQ K fr Mc H0 o O' P H D fl) : FlQ K fr Mc H0 o x P1 H1 D fl := by
  cases fl with
  | nx r' =>
    intro P' σ' H' s st
    obtain ⟨P2, s2, st2⟩ := s.only (hs r' rfl)
    exact (show ∀ P' σ' H', SR K Mc H0 O' P' r' σ' H' → Stp P H P' H' → D.nx σ' H' from q) _ _ _ s2 ((g.trans st).trans st2)
  | rt d => exact q
  | bk r' => exact fun P' σ' H' s st => (show ∀ P' σ' H', SR K Mc H0 o P' r' σ' H' → Stp P H P' H' → D.bk σ' H' from q) _ _ _ s (g.trans st)
  | ct r' => exact fun P' σ' H' s st => (show ∀ P' σ' H', SR K Mc H0 o P' r' σ' H' → Stp P H P' H' → D.ct σ' H' from q) _ _ _ s (g.trans st)
end
theorem bind_nx {α : Type} {x : R α} {f : α → R Fl} {r : En} (h : x.bind f = .ok (.nx r)) : ∃ a, x = .ok a ∧ f a = .ok (.nx r) := by
  cases x with
  | ok a => exact ⟨a, rfl, h⟩
  | ex z => cases h
  | no => cases h
theorem allA_ok {α : Type} {f : Int → Int → R α} {y : α} (h : allA f = .ok y) (a b : Int) : f a b = .ok y := by
  unfold allA at h
  split at h
  · rename_i q; rw [q a b]; exact h
  · cases h
theorem noexF_ok {g : Fl → Fl} {x : R Fl} {y : Fl} (h : noexF g x = .ok y) : ∃ fl, x = .ok fl ∧ g fl = y := by
  cases x with
  | ok fl => exact ⟨fl, rfl, R.ok.inj h⟩
  | ex z => cases h
  | no => cases h
mutual
theorem endS_nx : ∀ (s : IS) {T : List (Str × D)} {G : Ga} {r r' : En}, endS s = true → evS T G s r = .ok (.nx r') → False
  | .ret e, T, G, r, r', _, h => by
    obtain ⟨a, _, h⟩ := bind_nx (show (evE T G e r).bind (fun x => R.ok (Fl.rt x)) = .ok (.nx r') from h)
    cases h
  | .retN, T, G, r, r', _, h => by cases (show R.ok (Fl.rt .non) = .ok (.nx r') from h)
  | .brk, T, G, r, r', _, h => by cases (show R.ok (Fl.bk r) = .ok (.nx r') from h)
  | .cont, T, G, r, r', _, h => by cases (show R.ok (Fl.ct r) = .ok (.nx r') from h)
  | .never, T, G, r, r', _, h => by cases (show (R.no : R Fl) = R.ok (Fl.nx r') from h)
  | .ife e a b, T, G, r, r', he, h => by
    have he : (endSs a && endSs b) = true := he
    rw [Bool.and_eq_true] at he
    obtain ⟨d, _, h⟩ := bind_nx (show (evE T G e r).bind (fun x => (toB x).bind fun k => if k = true then evSs T G a r else evSs T G b r) = .ok (.nx r') from h)
    obtain ⟨k, _, h⟩ := bind_nx h
    cases k with
    | true => exact endSs_nx a he.1 h
    | false => exact endSs_nx b he.2 h
  | .asg _ _, _, _, _, _, h, _ => by cases h
  | .par _ _ _ _, _, _, _, _, h, _ => by cases h
  | .aug _ _ _, _, _, _, _, h, _ => by cases h
  | .sets _ _ _, _, _, _, _, h, _ => by cases h
  | .augs _ _ _ _, _, _, _, _, h, _ => by cases h
  | .app _ _, _, _, _, _, h, _ => by cases h
  | .ext _ _, _, _, _, _, h, _ => by cases h
  | .ins _ _ _, _, _, _, _, h, _ => by cases h
  | .clr _, _, _, _, _, h, _ => by cases h
  | .rev _, _, _, _, _, h, _ => by cases h
  | .pop _, _, _, _, _, h, _ => by cases h
  | .popAt _ _, _, _, _, _, h, _ => by cases h
  | .popSub _ _ _, _, _, _, _, h, _ => by cases h
  | .setsl _ _ _ _, _, _, _, _, h, _ => by cases h
  | .expr _, _, _, _, _, h, _ => by cases h
  | .whl _ _ _, _, _, _, _, h, _ => by cases h
  | .forr _ _ _ _, _, _, _, _, h, _ => by cases h
  | .forq _ _ _ _, _, _, _, _, h, _ => by cases h
  | .pass, _, _, _, _, h, _ => by cases h
  | .popk _ _ _, _, _, _, _, h, _ => by cases h
  | .rais x f e, T, G, r, r', _, h => by
    obtain ⟨a, _, h⟩ := bind_nx (show (evE T G e r).bind (fun v => raisD x f v) = .ok (.nx r') from h)
    unfold raisD at h
    split at h
    · cases h
    · split at h <;> cases h
  | .tryx b x i hh, T, G, r, r', he, h => by
    have he2 : (endSs b && endSs hh) = true := he
    rw [Bool.and_eq_true] at he2
    have h : (match evSs T G b r with
      | .ex x' => if mtc x x' = true then (match i with
        | some i => allA fun a b => noexF (goneF i) (evSs (T ++ [(("" : Str), exV a b x')]) G hh (r.set i (some (exV a b x'))))
        | none => noexF id (evSs T G hh r)) else .ex x'
      | y => y) = .ok (.nx r') := h
    cases e : evSs T G b r with
    | no => rw [e] at h; cases h
    | ok fl =>
      rw [e] at h
      have h : R.ok fl = .ok (.nx r') := h
      cases h
      exact endSs_nx b he2.1 e
    | ex z =>
      rw [e] at h
      have h : (if mtc x z = true then (match i with
        | some i => allA fun a b => noexF (goneF i) (evSs (T ++ [(("" : Str), exV a b z)]) G hh (r.set i (some (exV a b z))))
        | none => noexF id (evSs T G hh r)) else .ex z) = .ok (.nx r') := h
      split at h
      · cases i with
        | none =>
          obtain ⟨fl, e1, e2⟩ := noexF_ok h
          have e2 : fl = .nx r' := e2
          subst e2
          exact endSs_nx hh he2.2 e1
        | some i =>
          obtain ⟨fl, e1, e2⟩ := noexF_ok (allA_ok h 0 0)
          cases fl with
          | nx r2 => exact endSs_nx hh he2.2 e1
          | rt d => cases e2
          | bk d => cases e2
          | ct d => cases e2
      · cases h
theorem endSs_nx : ∀ (ss : Ss) {T : List (Str × D)} {G : Ga} {r r' : En}, endSs ss = true → evSs T G ss r = .ok (.nx r') → False
  | .nil, _, _, _, _, h, _ => by cases h
  | .cons s ss, T, G, r, r', he, h => by
    have he : (endS s || endSs ss) = true := he
    have h : ((evS T G s r).bind fun
      | .nx r1 => evSs T G ss r1
      | .rt x => .ok (.rt x)
      | .bk r1 => .ok (.bk r1)
      | .ct r1 => .ok (.ct r1)) = .ok (.nx r') := h
    obtain ⟨fl, e1, h⟩ := bind_nx h
    cases fl with
    | nx r1 =>
      cases q : endS s with
      | true => exact endS_nx s q e1
      | false =>
        rw [q, Bool.false_or] at he
        exact endSs_nx ss he h
    | rt d => cases h
    | bk d => cases h
    | ct d => cases h
end
section
variable {c : Ck} {n : Nat} {G : Ga} {fr : Bool}
theorem joinO_sub {a b : Ss} {x y : List Nat} : (endSs a = false → ∀ i, i ∈ joinO a b x y → i ∈ x) ∧ (endSs b = false → ∀ i, i ∈ joinO a b x y → i ∈ y) := by
  unfold joinO
  constructor
  · intro ha i hi
    rw [if_neg (by rw [ha]; exact Bool.false_ne_true)] at hi
    split at hi
    · exact hi
    · exact (List.mem_filter.mp hi).1
  · intro hb i hi
    split at hi
    · exact hi
    · rw [if_neg (by rw [hb]; exact Bool.false_ne_true)] at hi
      exact List.contains_iff_mem.mp (List.mem_filter.mp hi).2
theorem sX_ife {e : IE} {a b : Ss} (iha : SndXs c n G fr a) (ihb : SndXs c n G fr b) : SndX c n G fr (.ife e a b) := by
  intro T W sc X st o O O' hx hc how Mc H0 H P r σ hs D h
  have hc : (match shIf st with | some (t', a', b', pos) => (ckE c X.N sc e t' && (ckXs c X.N sc a a' && ckXs c X.N sc b b')) | none => false) = true := hc
  cases es : shIf st with
  | none => rw [es] at hc; exact Bool.noConfusion hc
  | some q =>
  obtain ⟨t', a', b', pos⟩ := q
  rw [es] at hc
  obtain rfl := shIf_ok es
  clear es
  have hc : (ckE c X.N sc e t' && (ckXs c X.N sc a a' && ckXs c X.N sc b b')) = true := hc
  rw [Bool.and_eq_true, Bool.and_eq_true] at hc
  obtain ⟨hct, hca, hcb⟩ := hc
  have how : ((owSs c fr o O a).bind fun x => (owSs c fr o O b).bind fun y => some (joinO a b x y)) = some O' := how
  cases ea : owSs c fr o O a with
  | none => rw [ea] at how; cases how
  | some x =>
  rw [ea] at how
  have how : ((owSs c fr o O b).bind fun y => some (joinO a b x y)) = some O' := how
  cases eb : owSs c fr o O b with
  | none => rw [eb] at how; cases how
  | some y =>
  rw [eb] at how
  cases how
  refine PS.ws (ps_if pt_wt pss_wss pss_wss) ?_
  have h : Sat ((evE T G e r).bind fun x => (toB x).bind fun k => if k = true then evSs T G a r else evSs T G b r) (FlQ X.K fr Mc H0 o _ P H D) (exS c.xc X.K W H0) := h
  refine (sndET e).2 hx.toSX hct hs (Sat.mono (Sat.bind h) (fun d _ h1 => Sat.mono (Sat.bind h1) (fun k _ h2 H1 s1 => ?_) fun z hz => hz.e hs.same) fun z hz => hz.e hs.same)
  cases k with
  | true => exact iha hx hca ea (hs.grow s1) (Sat.mono (show Sat (evSs T G a r) _ _ from h2) (fun fl efl q => q.conv (Stp.same s1) fun r' e => joinO_sub.1 (by
      subst e
      cases z : endSs a with
      | false => rfl
      | true => exact (endSs_nx a z efl).elim)) fun z hz => hz)
  | false => exact ihb hx hcb eb (hs.grow s1) (Sat.mono (show Sat (evSs T G b r) _ _ from h2) (fun fl efl q => q.conv (Stp.same s1) fun r' e => joinO_sub.2 (by
      subst e
      cases z : endSs b with
      | false => rfl
      | true => exact (endSs_nx b z efl).elim)) fun z hz => hz)
theorem sXs_nil : SndXs c n G fr .nil := by
  intro T W sc X l o O O' hx hc how Mc H0 H P r σ hs D h
  match l, hc with
  | [], hc =>
  cases (show some O = some O' from how)
  exact PSs.wss pss_nil ((show FlQ X.K fr Mc H0 o O P H D (.nx r) from h) _ _ _ hs (Stp.same (Same.refl H)))
theorem sXs_cons {s : IS} {ss : Ss} (ihs : SndX c n G fr s) (ihr : SndXs c n G fr ss) : SndXs c n G fr (.cons s ss) := by
  intro T W sc X l o O O' hx hc how Mc H0 H P r σ hs D h
  match l, hc with
  | a :: l, hc =>
  have hc : (ckX c X.N sc s a && ckXs c X.N sc ss l) = true := hc
  rw [Bool.and_eq_true] at hc
  have how : ((owS c fr o O s).bind fun x => owSs c fr o x ss) = some O' := how
  cases ea : owS c fr o O s with
  | none => rw [ea] at how; cases how
  | some x =>
  rw [ea] at how
  have how : owSs c fr o x ss = some O' := how
  refine PSs.wss (pss_cons ps_ws pss_wss) ?_
  have h : Sat ((evS T G s r).bind fun
    | .nx r1 => evSs T G ss r1
    | .rt x => .ok (.rt x)
    | .bk r1 => .ok (.bk r1)
    | .ct r1 => .ok (.ct r1)) (FlQ X.K fr Mc H0 o O' P H D) (exS c.xc X.K W H0) := h
  refine ihs hx hc.1 ea hs (D := { D with nx := WSs X l D }) (Sat.mono (Sat.bind h) (fun fl _ h1 => ?_) fun z hz => hz)
  cases fl with
  | nx r1 => exact fun P' σ' H' s' st => ihr hx hc.2 how s' (Sat.mono (show Sat (evSs T G ss r1) _ _ from h1) (fun fl _ q => q.conv st fun _ _ i hi => hi) fun z hz => hz)
  | rt d => exact h1
  | bk r1 => exact h1
  | ct r1 => exact h1
theorem sX_whl {o' : List Nat} {e : IE} {b : Ss} (ihb : SndXs c n G fr b) : SndX c n G fr (.whl o' e b) := by
  intro T W sc X st o O O' hx hc how Mc H0 H P r σ hs D h
  have hc : (match shWhl st with | some (t', b', pos) => (ckE c X.N sc e t' && ckXs c X.N sc b b') | none => false) = true := hc
  cases es : shWhl st with
  | none => rw [es] at hc; exact Bool.noConfusion hc
  | some q =>
  obtain ⟨t', b', pos⟩ := q
  rw [es] at hc
  obtain rfl := shWhl_ok es
  clear es
  have hc : (ckE c X.N sc e t' && ckXs c X.N sc b b') = true := hc
  rw [Bool.and_eq_true] at hc
  have how : (if subL o' O then (owSs c fr o' o' b).bind fun x => if subL o' x then some o' else none else none) = some O' := how
  split at how
  case isFalse => cases how
  rename_i hsub
  cases eb : owSs c fr o' o' b with
  | none => rw [eb] at how; cases how
  | some x =>
  rw [eb] at how
  have how : (if subL o' x then some o' else none) = some O' := how
  split at how
  case isFalse => cases how
  rename_i hsub2
  cases how
  refine PS.ws (ps_while hx.pass pt_wt pss_wss) ?_
  have h : Sat (whileR (fun r1 => (evE T G e r1).bind toB) (fun r1 => evSs T G b r1) r) (FlQ X.K fr Mc H0 o o' P H D) (exS c.xc X.K W H0) := h
  obtain ⟨m0, hm0⟩ := whileR_back (c := fun r1 => (evE T G e r1).bind toB) (f := fun r1 => evSs T G b r1) (r := r) (fun z => by rw [z] at h; exact h)
  generalize whileR (fun r1 => (evE T G e r1).bind toB) (fun r1 => evSs T G b r1) r = res at h hm0
  obtain ⟨P1, s1, st1⟩ := hs.only (subL_ok hsub)
  refine ⟨fun m σ1 H1 => ∃ P1 r1, SR X.K Mc H0 o' P1 r1 σ1 H1 ∧ Stp P H P1 H1 ∧ whileN (fun r1 => (evE T G e r1).bind toB) (fun r1 => evSs T G b r1) m r1 = some res, ⟨m0, P1, r, s1, st1, hm0⟩, ?_⟩
  rintro m σ1 H1 ⟨P1, r1, s1, st1, hm⟩
  cases m with
  | zero => cases hm
  | succ m =>
  unfold whileN at hm
  cases ec : evE T G e r1 with
  | no =>
    rw [ec] at hm
    cases hm
    exact h.elim
  | ex z =>
    rw [ec] at hm
    cases hm
    exact (sndET e).2 hx.toSX hc.1 s1 (by rw [ec]; exact (show exS c.xc X.K W H0 z from h).e s1.same)
  | ok d =>
  rw [ec, R.bind_ok] at hm
  refine (sndET e).2 hx.toSX hc.1 s1 ?_
  rw [ec]
  show Sat (toB d) _ _
  cases et : toB d with
  | no =>
    rw [et] at hm
    cases hm
    exact h.elim
  | ex z => exact (toB_ex et).elim
  | ok k =>
  rw [et] at hm
  intro H2 g2
  have s2 := s1.grow g2
  have st2 := st1.trans (Stp.same g2)
  cases k with
  | false =>
    cases hm
    (rw [if_neg Bool.false_ne_true])
    exact (show FlQ X.K fr Mc H0 o o' P H D (.nx r1) from h) _ _ _ s2 st2
  | true =>
  rw [if_pos rfl]
  refine ⟨fun σ' H' => ∃ P1 r1, SR X.K Mc H0 o' P1 r1 σ' H' ∧ Stp P H P1 H' ∧ whileN (fun r1 => (evE T G e r1).bind toB) (fun r1 => evSs T G b r1) m r1 = some res, fun σ' H' q => ⟨m, Nat.lt_succ_self m, q⟩, ?_⟩
  refine ihb hx hc.2 eb s2 ?_
  cases ef : evSs T G b r1 with
  | no =>
    rw [ef] at hm
    cases hm
    exact h.elim
  | ex z =>
    rw [ef] at hm
    cases hm
    exact h
  | ok fl =>
  rw [ef] at hm
  cases fl with
  | nx r2 =>
    intro P' σ' H' s' st'
    obtain ⟨P2, s3, st3⟩ := s'.only (subL_ok hsub2)
    exact ⟨P2, r2, s3, (st2.trans st').trans st3, hm⟩
  | ct r2 => exact fun P' σ' H' s' st' => ⟨P', r2, s', st2.trans st', hm⟩
  | bk r2 =>
    cases hm
    exact fun P' σ' H' s' st' => (show FlQ X.K fr Mc H0 o o' P H D (.nx r2) from h) _ _ _ s' (st2.trans st')
  | rt d2 =>
    cases hm
    exact h
theorem sX_forr {o' : List Nat} {t : IT} {it : II} {b : Ss} (ihb : SndXs c n G fr b) : SndX c n G fr (.forr o' t it b) := by
  intro T W sc X st o O O' hx hc how Mc H0 H P r σ hs D h
  have hc : (match shFor st with | some (tg, iter, b', pos) => !c.hot && (ckT X.N sc t tg && (ckI c X.N sc it iter (isTup tg) && ckXs c X.N sc b b')) | none => false) = true := hc
  cases es : shFor st with
  | none => rw [es] at hc; exact Bool.noConfusion hc
  | some q =>
  obtain ⟨tg, iter, b', pos⟩ := q
  rw [es] at hc
  obtain rfl := shFor_ok es
  clear es
  have hc : (!c.hot && (ckT X.N sc t tg && (ckI c X.N sc it iter (isTup tg) && ckXs c X.N sc b b'))) = true := hc
  rw [Bool.and_eq_true, Bool.and_eq_true, Bool.and_eq_true, Bool.not_eq_true'] at hc
  obtain ⟨h0, ht, hi, hcb⟩ := hc
  have how : (if subL o' (offO O (tgts t ++ (etI it ++ eiI it))) then (owSs c fr o' o' b).bind fun x => if subL o' x then some o' else none else none) = some O' := how
  split at how
  case isFalse => cases how
  rename_i hsub
  cases eb : owSs c fr o' o' b with
  | none => rw [eb] at how; cases how
  | some x =>
  rw [eb] at how
  have how : (if subL o' x then some o' else none) = some O' := how
  split at how
  case isFalse => cases how
  rename_i hsub2
  cases how
  have ho : ∀ i, i ∈ o' → i ∈ O ∧ i ∉ tgts t ++ (etI it ++ eiI it) := fun i hi => mem_offO.mp (subL_ok hsub i hi)
  refine PS.ws (ps_for hx.pass (hx.calm h0) pi_wi pg_wg pss_wss (ckI_set hi X.env)) ?_
  have h : Sat ((evI T G it r).bind fun ds => forD (fun r1 => evSs T G b r1) t ds r) (FlQ X.K fr Mc H0 o o' P H D) (exS c.xc X.K W H0) := h
  refine sndI it hx.toSX hi hs (Sat.mono (Sat.bind h) (fun ds _ h1 J H1 g1 wk => ?_) fun z hz => hz.e hs.same)
  obtain ⟨P1, s1, st1, hP⟩ := (hs.grow g1).only2 fun i hi => (ho i hi).1
  generalize hres : forD (fun r1 => evSs T G b r1) t ds r = res at h1
  refine ⟨fun i m σ' H' => m = ds.length - i ∧ i ≤ ds.length ∧ ∃ P' r', SR X.K Mc H0 o' P' r' σ' H' ∧ Stp P1 H1 P' H' ∧ forD (fun r1 => evSs T G b r1) t (ds.drop i) r' = res, ⟨ds.length, by simp, Nat.zero_le _, P1, r, s1, Stp.same (Same.refl _), hres⟩, ?_⟩
  rintro i m σ' H' ⟨rfl, hil, P', r', s', st', hfd⟩
  have stb : Stp P H P' H' := ((Stp.same g1).trans st1).trans st'
  have k1 : ∀ a, Own P1 a → MM Mc P (etI it) a ∧ MM Mc P (eiI it) a := fun a ⟨j, e⟩ => by
    obtain ⟨_, _, hj, _⟩ := s1.new j a e
    have hn := (ho j hj).2
    exact ⟨.inr ⟨j, fun z => hn (List.mem_append_right _ (List.mem_append_left _ z)), hP j a e⟩, .inr ⟨j, fun z => hn (List.mem_append_right _ (List.mem_append_right _ z)), hP j a e⟩⟩
  have wk' := wk (Own P1) (MM Mc P' []) H' (fun a q => .inl (k1 a q)) (fun a q => by
    rcases q with q | ⟨j, _, e⟩
    · exact .inl (.inl q)
    · rcases st'.own a ⟨j, e⟩ with z | z
      · exact .inl (k1 a z).2
      · exact .inr z) st'.kp
  by_cases hlt : i < ds.length
  · have hget : ds[i]? = some ds[i] := List.getElem?_eq_getElem hlt
    have hdrop : ds.drop i = ds[i] :: ds.drop (i + 1) := List.drop_eq_getElem_cons hlt
    rw [hdrop] at hfd
    have hfd : ((asgT t ds[i] r').bind fun r1 => (evSs T G b r1).bind fun
      | .nx r2 => forD (fun r1 => evSs T G b r1) t (ds.drop (i + 1)) r2
      | .ct r2 => forD (fun r1 => evSs T G b r1) t (ds.drop (i + 1)) r2
      | .bk r2 => .ok (.nx r2)
      | .rt x => .ok (.rt x)) = res := hfd
    refine .inr ⟨(wk'.1 i _ hget).1, fun σ2 H2 => i + 1 ≤ ds.length ∧ ∃ P' r', SR X.K Mc H0 o' P' r' σ2 H2 ∧ Stp P1 H1 P' H2 ∧ forD (fun r1 => evSs T G b r1) t (ds.drop (i + 1)) r' = res, fun σ2 H2 q => ⟨ds.length - (i + 1), by omega, rfl, q.1, q.2⟩, fun y H3 hy => ?_⟩
    obtain ⟨g3, ry⟩ := (wk'.1 i _ hget).2 y H3 hy
    cases ea : asgT t ds[i] r' with
    | no => rw [ea] at hfd; subst hfd; exact h1.elim
    | ex z => exact (asgT_ex ea).elim
    | ok r1 =>
    rw [ea] at hfd
    have hfd : ((evSs T G b r1).bind fun
      | .nx r2 => forD (fun r1 => evSs T G b r1) t (ds.drop (i + 1)) r2
      | .ct r2 => forD (fun r1 => evSs T G b r1) t (ds.drop (i + 1)) r2
      | .bk r2 => .ok (.nx r2)
      | .rt x => .ok (.rt x)) = res := hfd
    have off : ∀ j, j ∈ tgts t → j ∉ o' := fun j hj z => (ho j z).2 (List.mem_append_left _ hj)
    refine sndG hx.toSX (hx.calm h0) t tg ht (s'.grow g3) (fun j hj => ⟨?_, off j hj, fun y _ => .inl (hx.fnT y)⟩) ry ea fun σ2 hs2 _ => ?_
    · cases q : P' j with
      | none => rfl
      | some a => exact absurd (s'.new j a q).2.2.1 (off j hj)
    refine ihb hx hcb eb hs2 ?_
    cases ef : evSs T G b r1 with
    | no => rw [ef] at hfd; subst hfd; exact h1.elim
    | ex z => rw [ef] at hfd; subst hfd; exact h1
    | ok fl =>
    rw [ef] at hfd
    cases fl with
    | nx r2 =>
      intro P2 σ3 H4 s4 st4
      obtain ⟨P3, s5, st5⟩ := s4.only (subL_ok hsub2)
      exact ⟨hlt, P3, r2, s5, (st'.trans (Stp.same g3)).trans (st4.trans st5), hfd⟩
    | ct r2 => exact fun P2 σ3 H4 s4 st4 => ⟨hlt, P2, r2, s4, (st'.trans (Stp.same g3)).trans st4, hfd⟩
    | bk r2 =>
      have hfd : R.ok (Fl.nx r2) = res := hfd
      subst hfd
      exact fun P2 σ3 H4 s4 st4 => (show FlQ X.K fr Mc H0 o o' P H D (.nx r2) from h1) _ _ _ s4 ((stb.trans (Stp.same g3)).trans st4)
    | rt d2 =>
      have hfd : R.ok (Fl.rt d2) = res := hfd
      subst hfd
      exact h1
  · have e0 : i = ds.length := by omega
    subst e0
    rw [List.drop_length] at hfd
    have hfd : R.ok (Fl.nx r') = res := hfd
    subst hfd
    exact .inl ⟨wk'.2, (show FlQ X.K fr Mc H0 o o' P H D (.nx r') from h1) _ _ _ s' stb⟩
def FlR (K : PySem.W.Frag) (fr : Bool) (Mc : AS) (H0 : Hp) (O : List Nat) (P : Nat → Option Addr) (H : Hp) (D : Ends) : Fl → Prop
  | .nx r => ∀ σ' H', SR K Mc H0 O P r σ' H' → Same H H' → D.nx σ' H'
  | .bk r => ∀ σ' H', SR K Mc H0 O P r σ' H' → Same H H' → D.bk σ' H'
  | .ct r => ∀ σ' H', SR K Mc H0 O P r σ' H' → Same H H' → D.ct σ' H'
  | .rt d => ∀ v H', Same H0 H' → Res K fr Mc Mc H0 H' d v → D.rt v H'
theorem FlR.conv {K : PySem.W.Frag} {Mc : AS} {H0 H H1 : Hp} {O : List Nat} {P : Nat → Option Addr} {D : Ends} {fl : Fl} (g : Same H H1) (q : FlR K fr Mc H0 O P H D fl) : FlR K fr Mc H0 O P H1 D fl := by
  cases fl with
  | nx r => exact fun σ' H' s g' => (show ∀ σ' H', SR K Mc H0 O P r σ' H' → Same H H' → D.nx σ' H' from q) _ _ s (g.trans g')
  | bk r => exact fun σ' H' s g' => (show ∀ σ' H', SR K Mc H0 O P r σ' H' → Same H H' → D.bk σ' H' from q) _ _ s (g.trans g')
  | ct r => exact fun σ' H' s g' => (show ∀ σ' H', SR K Mc H0 O P r σ' H' → Same H H' → D.ct σ' H' from q) _ _ s (g.trans g')
  | rt d => exact q
abbrev SndR (c : Ck) (n : Nat) (G : Ga) (fr : Bool) (s : IS) : Prop := ∀ {T : List (Str × PL.D)} {W : WX} {sc : Scope} {X : Cx} {a : Stmt} {O : List Nat}, SXs c T n G W sc X → ckX c X.N sc s a = true → qS c fr O s = true →
  ∀ {Mc : AS} {H0 H : Hp} {P : Nat → Option Addr} {r : En} {σ : L2.St}, SR X.K Mc H0 O P r σ H → ∀ {D : Ends}, Sat (evS T G s r) (FlR X.K fr Mc H0 O P H D) (exS c.xc X.K W H0) → WS X a D σ H
abbrev SndRs (c : Ck) (n : Nat) (G : Ga) (fr : Bool) (s : Ss) : Prop := ∀ {T : List (Str × PL.D)} {W : WX} {sc : Scope} {X : Cx} {a : List Stmt} {O : List Nat}, SXs c T n G W sc X → ckXs c X.N sc s a = true → qSs c fr O s = true →
  ∀ {Mc : AS} {H0 H : Hp} {P : Nat → Option Addr} {r : En} {σ : L2.St}, SR X.K Mc H0 O P r σ H → ∀ {D : Ends}, Sat (evSs T G s r) (FlR X.K fr Mc H0 O P H D) (exS c.xc X.K W H0) → WSs X a D σ H
theorem dsj_ok {O L : List Nat} (h : dsj O L = true) : ∀ i, i ∈ L → i ∉ O := fun i hi z => by
  have := List.all_eq_true.mp h i hi
  rw [List.contains_iff_mem.mpr z] at this
  cases this
theorem SR.noP {K : PySem.W.Frag} {Mc : AS} {H0 H : Hp} {O : List Nat} {P : Nat → Option Addr} {r : En} {σ : L2.St} (s : SR K Mc H0 O P r σ H) {i : Nat} (h : i ∉ O) : P i = none := by
  cases e : P i with
  | none => rfl
  | some a => exact absurd (s.new i a e).2.2.1 h
/-- a value that none of the own ones may lead to -/
theorem SR.alQ {K : PySem.W.Frag} {Mc : AS} {H0 H H1 : Hp} {O : List Nat} {P : Nat → Option Addr} {r : En} {σ : L2.St} {e : IE} {d : D} {v : V} (s : SR K Mc H0 O P r σ H) (g : Same H H1) (hL : ∀ i, i ∈ alE c e → i ∉ O)
    (q : Res K (frE c e) (MM Mc P (etE e)) (MM Mc P (eiE e)) H H1 d v) : Rep K (MM Mc P []) H1 d v := by
  refine Rep.less (fun a z => ?_) (s.al (c := c) g (L := alE c e) (fun _ z => z) q)
  rcases z with z | ⟨i, hi, e⟩
  · exact .inl z
  · have io := (s.new i a e).2.2.1
    refine .inr ⟨i, hi, ?_⟩
    show (if i ∈ alE c _ then none else P i) = some a
    rw [if_neg (fun z => hL i z io)]
    exact e
theorem sR_asgN {i : Nat} {e : IE} : SndR c n G fr (.asg (.nm i) e) := by
  intro T W sc X a O hx hc hq Mc H0 H P r σ hs D h
  have hc : (match shAsgN a with | some (y, py, v, pos) => (decide (X.N[i]? = some y) && (locC sc y && ckE c X.N sc e v)) | none => false) = true := hc
  cases es : shAsgN a with
  | none => rw [es] at hc; exact Bool.noConfusion hc
  | some q =>
  obtain ⟨y, py, v, pos⟩ := q
  rw [es] at hc
  obtain rfl := shAsgN_ok es
  clear es
  have hc : (decide (X.N[i]? = some y) && (locC sc y && ckE c X.N sc e v)) = true := hc
  (simp only [Bool.and_eq_true, decide_eq_true_eq] at hc)
  obtain ⟨hN, hl, hck⟩ := hc
  have hq := dsj_ok (show dsj O (i :: alE c e) = true from hq)
  have hloc := locC_ok hx.scope hl
  have h : Sat ((evE T G e r).bind fun x => R.ok (Fl.nx (r.set i (some x)))) (FlR X.K fr Mc H0 O P H D) (exS c.xc X.K W H0) := h
  have hcore : Sat (evE T G e r) (okE X.K (frE c e) (MM Mc P (etE e)) (MM Mc P (eiE e)) H (fun x H1 => gName i x σ H1 D.nx)) (exE c.xc X.K W σ H) :=
    Sat.mono (Sat.bind h) (fun d _ h1 x H1 s1 r1 => (show ∀ σ' H', SR X.K Mc H0 O P (r.set i (some d)) σ' H' → Same H H' → D.nx σ' H' from h1) _ _ ((hs.grow s1).set (hs.noP (hq i (List.mem_cons_self ..))) (hq i (List.mem_cons_self ..)) (hs.alQ s1 (fun j hj => hq j (List.mem_cons_of_mem _ hj)) r1)) s1) fun z hz => hz.e hs.same
  cases hv : isComp v with
  | false => exact PS.ws (ps_set hx.nd hN hloc pe_we (sw_no hv) (.inl (hx.fnT y))) ((sndET e).1 hx.toSX hck hs hcore)
  | true =>
    obtain ⟨own, e', t, it, o2, rfl⟩ := comp_of hck hv
    obtain ⟨elt, tg, iter, ifs, scope, p, rfl, hb, hown, hi, ht, hl2, he, ho, h0⟩ := iv_comp hck
    cases hsw : swB sc y py p scope with
    | false => exact PS.ws (ps_set hx.nd hN hloc pe_we (by rw [sw_lc hx.scope hx.kind, hsw]) (.inl (hx.fnT y))) ((sndET _).1 hx.toSX hck hs hcore)
    | true =>
      have ok : BlkOk X.N X.env.scope scope (ownN X.N own) := by rw [hx.scope]; exact blkOk_by hb
      refine PS.ws (ps_setLc (i := i) (hx.calm h0) hx.nd hN (by rw [hx.scope]; exact swB_loc hsw) (by rw [sw_lc hx.scope hx.kind, hsw]) pi_wi ok gC_pg tC_pt eC_pe (ckI_set hi X.env)) ?_
      rw [hown]
      exact comp_core (sndET e').1 (sndI it) (sndOC o2).2 hx.toSX h0 hi ht hl2 he ho hs hcore
theorem sR_asgT {ts : Ts} {e : IE} : SndR c n G fr (.asg (.tp ts) e) := by
  intro T W sc X a O hx hc hq Mc H0 H P r σ hs D h
  have hc : (match shAsg a with | some (tg, v, pos) => !c.hot && (ckT X.N sc (.tp ts) tg && (!isTup v && ckE c X.N sc e v)) | none => false) = true := hc
  cases es : shAsg a with
  | none => rw [es] at hc; exact Bool.noConfusion hc
  | some q =>
  obtain ⟨tg, v, pos⟩ := q
  rw [es] at hc
  obtain rfl := shAsg_ok es
  clear es
  have hc : (!c.hot && (ckT X.N sc (.tp ts) tg && (!isTup v && ckE c X.N sc e v))) = true := hc
  simp only [Bool.and_eq_true, Bool.not_eq_true'] at hc
  obtain ⟨h0, ht, hv, hck⟩ := hc
  clear hc
  have hq := dsj_ok (show dsj O (tgtss ts ++ alE c e) = true from hq)
  cases tg <;> first | exact Bool.noConfusion ht | skip
  rename_i es k p
  refine PS.ws (ps_asg (tg := .Tuple es k p) pe_we pg_wg (sw_tup (a := v) (l := pos.line) (env := X.env) (es := es) (k := k) (p := p)) (st_tup (env := X.env) (es := es) (k := k) (p := p) hv) rfl) ?_
  refine (sndET e).1 hx.toSX hck hs (Sat.mono (Sat.bind (show Sat ((evE T G e r).bind fun x => (asgT (.tp ts) x r).bind fun r1 => R.ok (Fl.nx r1)) (FlR X.K fr Mc H0 O P H D) (exS c.xc X.K W H0) from h)) (fun d _ h1 x H1 s1 r1 => ?_) fun z hz => hz.e hs.same)
  have rp := hs.alQ s1 (fun j hj => hq j (List.mem_append_right _ hj)) r1
  cases ea : asgT (.tp ts) d r with
  | no => rw [ea] at h1; exact h1.elim
  | ex z => exact (asgT_ex ea).elim
  | ok r2 =>
    rw [ea] at h1
    exact sndG hx.toSX (hx.calm h0) (.tp ts) (.Tuple es k p) ht (hs.grow s1) (fun j hj => ⟨hs.noP (hq j (List.mem_append_left _ hj)), hq j (List.mem_append_left _ hj), fun y _ => .inl (hx.fnT y)⟩) rp ea fun σ2 hs2 _ =>
      (show ∀ σ' H', SR X.K Mc H0 O P r2 σ' H' → Same H H' → D.nx σ' H' from h1) _ _ hs2 s1
theorem sR_ret {e : IE} : SndR c n G fr (.ret e) := by
  intro T W sc X a O hx hc hq Mc H0 H P r σ hs D h
  have hq : (!fr || (nlE e || frE c e)) = true := hq
  have how : owS c fr O O (.ret e) = some O := by
    show (if !fr || (nlE e || frE c e || ownV O e) then some O else none) = some O
    rw [if_pos (by revert hq; cases fr <;> cases nlE e <;> cases frE c e <;> simp)]
  refine sX_ret hx hc how hs (Sat.mono (show Sat (evS T G (.ret e) r) _ _ from h) (fun fl efl q => ?_) fun z hz => hz)
  obtain ⟨d, _, h2⟩ := bind_ok (show ((evE T G e r).bind fun x => R.ok (Fl.rt x)) = .ok fl from efl)
  cases h2
  exact q
theorem sR_ife {e : IE} {a b : Ss} (iha : SndRs c n G fr a) (ihb : SndRs c n G fr b) : SndR c n G fr (.ife e a b) := by
  intro T W sc X st O hx hc hq Mc H0 H P r σ hs D h
  have hc : (match shIf st with | some (t', a', b', pos) => (ckE c X.N sc e t' && (ckXs c X.N sc a a' && ckXs c X.N sc b b')) | none => false) = true := hc
  cases es : shIf st with
  | none => rw [es] at hc; exact Bool.noConfusion hc
  | some q =>
  obtain ⟨t', a', b', pos⟩ := q
  rw [es] at hc
  obtain rfl := shIf_ok es
  clear es
  have hc : (ckE c X.N sc e t' && (ckXs c X.N sc a a' && ckXs c X.N sc b b')) = true := hc
  rw [Bool.and_eq_true, Bool.and_eq_true] at hc
  obtain ⟨hct, hca, hcb⟩ := hc
  have hq : (qSs c fr O a && qSs c fr O b) = true := hq
  rw [Bool.and_eq_true] at hq
  refine PS.ws (ps_if pt_wt pss_wss pss_wss) ?_
  have h : Sat ((evE T G e r).bind fun x => (toB x).bind fun k => if k = true then evSs T G a r else evSs T G b r) (FlR X.K fr Mc H0 O P H D) (exS c.xc X.K W H0) := h
  refine (sndET e).2 hx.toSX hct hs (Sat.mono (Sat.bind h) (fun d _ h1 => Sat.mono (Sat.bind h1) (fun k _ h2 H1 s1 => ?_) fun z hz => hz.e hs.same) fun z hz => hz.e hs.same)
  cases k with
  | true => exact iha hx hca hq.1 (hs.grow s1) (Sat.mono (show Sat (evSs T G a r) _ _ from h2) (fun fl _ q => q.conv s1) fun z hz => hz)
  | false => exact ihb hx hcb hq.2 (hs.grow s1) (Sat.mono (show Sat (evSs T G b r) _ _ from h2) (fun fl _ q => q.conv s1) fun z hz => hz)
theorem sR_pass : SndR c n G fr .pass := by
  intro T W sc X a O hx hc hq Mc H0 H P r σ hs D h
  obtain ⟨q, es⟩ := Option.isSome_iff_exists.mp (show (shPass a).isSome = true from hc)
  obtain rfl := shPass_ok es
  exact PS.ws ps_pass ((show FlR X.K fr Mc H0 O P H D (.nx r) from h) _ _ hs (Same.refl H))
theorem sR_brk : SndR c n G fr .brk := by
  intro T W sc X a O hx hc hq Mc H0 H P r σ hs D h
  obtain ⟨q, es⟩ := Option.isSome_iff_exists.mp (show (shBrk a).isSome = true from hc)
  obtain rfl := shBrk_ok es
  exact PS.ws ps_break ((show FlR X.K fr Mc H0 O P H D (.bk r) from h) _ _ hs (Same.refl H))
theorem sR_cont : SndR c n G fr .cont := by
  intro T W sc X a O hx hc hq Mc H0 H P r σ hs D h
  obtain ⟨q, es⟩ := Option.isSome_iff_exists.mp (show (shCont a).isSome = true from hc)
  obtain rfl := shCont_ok es
  exact PS.ws ps_continue ((show FlR X.K fr Mc H0 O P H D (.ct r) from h) _ _ hs (Same.refl H))
theorem sRs_nil : SndRs c n G fr .nil := by
  intro T W sc X l O hx hc hq Mc H0 H P r σ hs D h
  match l, hc with
  | [], hc =>
  exact PSs.wss pss_nil ((show FlR X.K fr Mc H0 O P H D (.nx r) from h) _ _ hs (Same.refl H))
theorem sRs_cons {s : IS} {ss : Ss} (ihs : SndR c n G fr s) (ihr : SndRs c n G fr ss) : SndRs c n G fr (.cons s ss) := by
  intro T W sc X l O hx hc hq Mc H0 H P r σ hs D h
  match l, hc with
  | a :: l, hc =>
  have hc : (ckX c X.N sc s a && ckXs c X.N sc ss l) = true := hc
  rw [Bool.and_eq_true] at hc
  have hq : (qS c fr O s && qSs c fr O ss) = true := hq
  rw [Bool.and_eq_true] at hq
  refine PSs.wss (pss_cons ps_ws pss_wss) ?_
  have h : Sat ((evS T G s r).bind fun
    | .nx r1 => evSs T G ss r1
    | .rt x => .ok (.rt x)
    | .bk r1 => .ok (.bk r1)
    | .ct r1 => .ok (.ct r1)) (FlR X.K fr Mc H0 O P H D) (exS c.xc X.K W H0) := h
  refine ihs hx hc.1 hq.1 hs (D := { D with nx := WSs X l D }) (Sat.mono (Sat.bind h) (fun fl _ h1 => ?_) fun z hz => hz)
  cases fl with
  | nx r1 => exact fun σ' H' s' g => ihr hx hc.2 hq.2 s' (Sat.mono (show Sat (evSs T G ss r1) _ _ from h1) (fun fl _ q => q.conv g) fun z hz => hz)
  | rt d => exact h1
  | bk r1 => exact h1
  | ct r1 => exact h1
theorem sR_no {s : IS} (h : ∀ O, qS c fr O s = false) : SndR c n G fr s := by
  intro T W sc X a O hx hc hq
  rw [h O] at hq
  cases hq
mutual
theorem sndR : ∀ s : IS, SndR c n G fr s
  | .asg (.nm _) _ => sR_asgN
  | .asg (.tp _) _ => sR_asgT
  | .ret _ => sR_ret
  | .ife _ a b => sR_ife (sndRs a) (sndRs b)
  | .pass => sR_pass
  | .cont => sR_cont
  | .brk => sR_brk
  | .par _ _ _ _ => sR_no fun _ => rfl
  | .aug _ _ _ => sR_no fun _ => rfl
  | .sets _ _ _ => sR_no fun _ => rfl
  | .augs _ _ _ _ => sR_no fun _ => rfl
  | .app _ _ => sR_no fun _ => rfl
  | .ext _ _ => sR_no fun _ => rfl
  | .ins _ _ _ => sR_no fun _ => rfl
  | .clr _ => sR_no fun _ => rfl
  | .rev _ => sR_no fun _ => rfl
  | .pop _ => sR_no fun _ => rfl
  | .popAt _ _ => sR_no fun _ => rfl
  | .popSub _ _ _ => sR_no fun _ => rfl
  | .popk _ _ _ => sR_no fun _ => rfl
  | .rais _ _ _ => sR_no fun _ => rfl
  | .tryx _ _ _ _ => sR_no fun _ => rfl
  | .setsl _ _ _ _ => sR_no fun _ => rfl
  | .expr _ => sR_no fun _ => rfl
  | .retN => sR_no fun _ => rfl
  | .whl _ _ _ => sR_no fun _ => rfl
  | .forr _ _ _ _ => sR_no fun _ => rfl
  | .forq _ _ _ _ => sR_no fun _ => rfl
  | .never => sR_no fun _ => rfl
theorem sndRs : ∀ ss : Ss, SndRs c n G fr ss
  | .nil => sRs_nil
  | .cons s ss => sRs_cons (sndR s) (sndRs ss)
end
theorem sX_forq {o' : List Nat} {t : IT} {it : II} (b : Ss) : SndX c n G fr (.forq o' t it b) := by
  intro T W sc X st o O O' hx hc how Mc H0 H P r σ hs D h
  have hc : (match shFor st with | some (tg, iter, b', pos) => !c.hot && (ckT X.N sc t tg && (ckI c X.N sc it iter (isTup tg) && ckXs c X.N sc b b')) | none => false) = true := hc
  cases es : shFor st with
  | none => rw [es] at hc; exact Bool.noConfusion hc
  | some q =>
  obtain ⟨tg, iter, b', pos⟩ := q
  rw [es] at hc
  obtain rfl := shFor_ok es
  clear es
  have hc : (!c.hot && (ckT X.N sc t tg && (ckI c X.N sc it iter (isTup tg) && ckXs c X.N sc b b'))) = true := hc
  rw [Bool.and_eq_true, Bool.and_eq_true, Bool.and_eq_true, Bool.not_eq_true'] at hc
  obtain ⟨h0, ht, hi, hcb⟩ := hc
  have how : (if subL o' (offO O (tgts t ++ eiI it)) && qSs c fr o' b then some o' else none) = some O' := how
  split at how
  case isFalse => cases how
  rename_i hsub
  cases how
  rw [Bool.and_eq_true] at hsub
  obtain ⟨hsub, hqb⟩ := hsub
  have ho : ∀ i, i ∈ o' → i ∈ O ∧ i ∉ tgts t ++ eiI it := fun i hi => mem_offO.mp (subL_ok hsub i hi)
  refine PS.ws (ps_for hx.pass (hx.calm h0) pi_wi pg_wg pss_wss (ckI_set hi X.env)) ?_
  have h : Sat ((evI T G it r).bind fun ds => forD (fun r1 => evSs T G b r1) t ds r) (FlQ X.K fr Mc H0 o o' P H D) (exS c.xc X.K W H0) := h
  refine sndI it hx.toSX hi hs (Sat.mono (Sat.bind h) (fun ds _ h1 J H1 g1 wk => ?_) fun z hz => hz.e hs.same)
  obtain ⟨P1, s1, st1, hP⟩ := (hs.grow g1).only2 fun i hi => (ho i hi).1
  generalize hres : forD (fun r1 => evSs T G b r1) t ds r = res at h1
  refine ⟨fun i m σ' H' => m = ds.length - i ∧ i ≤ ds.length ∧ ∃ r', SR X.K Mc H0 o' P1 r' σ' H' ∧ Same H1 H' ∧ forD (fun r1 => evSs T G b r1) t (ds.drop i) r' = res, ⟨ds.length, by simp, Nat.zero_le _, r, s1, Same.refl _, hres⟩, ?_⟩
  rintro i m σ' H' ⟨rfl, hil, r', s', g', hfd⟩
  have stb : Stp P H P1 H' := ((Stp.same g1).trans st1).trans (Stp.same g')
  have wk' := wk F0 (MM Mc P1 []) H' (fun a q => q.elim) (fun a q => by
    rcases q with q | ⟨j, _, e⟩
    · exact .inl (.inl q)
    · have hj := (s1.new j a e).2.2.1
      exact .inl (.inr ⟨j, fun z => (ho j hj).2 (List.mem_append_right _ z), hP j a e⟩)) (Kp.of g')
  by_cases hlt : i < ds.length
  · have hget : ds[i]? = some ds[i] := List.getElem?_eq_getElem hlt
    have hdrop : ds.drop i = ds[i] :: ds.drop (i + 1) := List.drop_eq_getElem_cons hlt
    rw [hdrop] at hfd
    have hfd : ((asgT t ds[i] r').bind fun r1 => (evSs T G b r1).bind fun
      | .nx r2 => forD (fun r1 => evSs T G b r1) t (ds.drop (i + 1)) r2
      | .ct r2 => forD (fun r1 => evSs T G b r1) t (ds.drop (i + 1)) r2
      | .bk r2 => .ok (.nx r2)
      | .rt x => .ok (.rt x)) = res := hfd
    refine .inr ⟨(wk'.1 i _ hget).1, fun σ2 H2 => i + 1 ≤ ds.length ∧ ∃ r', SR X.K Mc H0 o' P1 r' σ2 H2 ∧ Same H1 H2 ∧ forD (fun r1 => evSs T G b r1) t (ds.drop (i + 1)) r' = res, fun σ2 H2 q => ⟨ds.length - (i + 1), by omega, rfl, q.1, q.2⟩, fun y H3 hy => ?_⟩
    obtain ⟨g3, ry⟩ := (wk'.1 i _ hget).2 y H3 hy
    cases ea : asgT t ds[i] r' with
    | no => rw [ea] at hfd; subst hfd; exact h1.elim
    | ex z => exact (asgT_ex ea).elim
    | ok r1 =>
    rw [ea] at hfd
    have hfd : ((evSs T G b r1).bind fun
      | .nx r2 => forD (fun r1 => evSs T G b r1) t (ds.drop (i + 1)) r2
      | .ct r2 => forD (fun r1 => evSs T G b r1) t (ds.drop (i + 1)) r2
      | .bk r2 => .ok (.nx r2)
      | .rt x => .ok (.rt x)) = res := hfd
    have off : ∀ j, j ∈ tgts t → j ∉ o' := fun j hj z => (ho j z).2 (List.mem_append_left _ hj)
    refine sndG hx.toSX (hx.calm h0) t tg ht (s'.grow g3) (fun j hj => ⟨s'.noP (off j hj), off j hj, fun y _ => .inl (hx.fnT y)⟩) ry ea fun σ2 hs2 _ => ?_
    refine sndRs b hx hcb hqb hs2 ?_
    cases ef : evSs T G b r1 with
    | no => rw [ef] at hfd; subst hfd; exact h1.elim
    | ex z => rw [ef] at hfd; subst hfd; exact h1
    | ok fl =>
    rw [ef] at hfd
    cases fl with
    | nx r2 => exact fun σ3 H4 s4 g4 => ⟨hlt, r2, s4, (g'.trans g3).trans g4, hfd⟩
    | ct r2 => exact fun σ3 H4 s4 g4 => ⟨hlt, r2, s4, (g'.trans g3).trans g4, hfd⟩
    | bk r2 =>
      have hfd : R.ok (Fl.nx r2) = res := hfd
      subst hfd
      exact fun σ3 H4 s4 g4 => (show FlQ X.K fr Mc H0 o o' P H D (.nx r2) from h1) _ _ _ s4 (stb.trans (Stp.same (g3.trans g4)))
    | rt d2 =>
      have hfd : R.ok (Fl.rt d2) = res := hfd
      subst hfd
      exact h1
  · have e0 : i = ds.length := by omega
    subst e0
    rw [List.drop_length] at hfd
    have hfd : R.ok (Fl.nx r') = res := hfd
    subst hfd
    exact .inl ⟨wk'.2, (show FlQ X.K fr Mc H0 o o' P H D (.nx r') from h1) _ _ _ s' stb⟩
theorem SR.forget {K : PySem.W.Frag} {Mc : AS} {H0 H : Hp} {O : List Nat} {P : Nat → Option Addr} {r : En} {σ : L2.St} (s : SR K Mc H0 O P r σ H) (i : Nat) : SR K Mc H0 O P (r.set i none) (σ.set i none) H := by
  refine ⟨s.same, s.mc, s.new, s.inj, by rw [List.length_set, List.length_set]; exact s.len, fun j e q => ?_⟩
  by_cases hj : i = j
  · subst hj
    by_cases hl : i < r.length
    · rw [List.getElem?_set_self hl] at q; cases q
    · rw [List.getElem?_eq_none (by rw [List.length_set]; omega)] at q; cases q
  · rw [List.getElem?_set_ne hj] at q
    obtain ⟨u, h1, h2⟩ := s.slot j e q
    exact ⟨u, by rw [List.getElem?_set_ne hj]; exact h1, h2⟩
abbrev SndYs (c : Ck) (n : Nat) (G : Ga) (fr : Bool) (s : Ss) : Prop := tryB s = true → ∀ {T : List (Str × PL.D)} {W : WX} {sc : Scope} {X : Cx} {a : List Stmt} {o O O' : List Nat}, SXs c T n G W sc X → ckXs c X.N sc s a = true → owSs c fr o O s = some O' →
  ∀ {Mc : AS} {H0 H : Hp} {P : Nat → Option Addr} {r : En} {σ : L2.St}, SR X.K Mc H0 O P r σ H → ∀ {D : Ends}, Sat (evSs T G s r) (FlQ X.K fr Mc H0 o O' P H D) (exE c.xc X.K W σ H) → WSs X a D σ H
theorem sY_ife {e : IE} {a b : Ss} (iha : SndYs c n G fr a) (ihb : SndYs c n G fr b) (ha0 : tryB a = true) (hb0 : tryB b = true) : SndY c n G fr (.ife e a b) := by
  intro T W sc X st o O O' hx hc how Mc H0 H P r σ hs D h
  have hc : (match shIf st with | some (t', a', b', pos) => (ckE c X.N sc e t' && (ckXs c X.N sc a a' && ckXs c X.N sc b b')) | none => false) = true := hc
  cases es : shIf st with
  | none => rw [es] at hc; exact Bool.noConfusion hc
  | some q =>
  obtain ⟨t', a', b', pos⟩ := q
  rw [es] at hc
  obtain rfl := shIf_ok es
  clear es
  have hc : (ckE c X.N sc e t' && (ckXs c X.N sc a a' && ckXs c X.N sc b b')) = true := hc
  rw [Bool.and_eq_true, Bool.and_eq_true] at hc
  obtain ⟨hct, hca, hcb⟩ := hc
  have how : ((owSs c fr o O a).bind fun x => (owSs c fr o O b).bind fun y => some (joinO a b x y)) = some O' := how
  obtain ⟨x, ea, how⟩ := Option.bind_eq_some_iff.mp how
  obtain ⟨y, eb, how⟩ := Option.bind_eq_some_iff.mp how
  cases how
  refine PS.ws (ps_if pt_wt pss_wss pss_wss) ?_
  have h : Sat ((evE T G e r).bind fun x => (toB x).bind fun k => if k = true then evSs T G a r else evSs T G b r) (FlQ X.K fr Mc H0 o _ P H D) (exE c.xc X.K W σ H) := h
  refine (sndET e).2 hx.toSX hct hs (Sat.mono (Sat.bind h) (fun d _ h1 => Sat.mono (Sat.bind h1) (fun k _ h2 H1 s1 => ?_) fun z hz => hz) fun z hz => hz)
  cases k with
  | true => exact iha ha0 hx hca ea (hs.grow s1) (Sat.mono (show Sat (evSs T G a r) _ _ from h2) (fun fl efl q => q.conv (Stp.same s1) fun r' e => joinO_sub.1 (by
      subst e
      cases z : endSs a with
      | false => rfl
      | true => exact (endSs_nx a z efl).elim)) fun z hz => exE.same s1 hz)
  | false => exact ihb hb0 hx hcb eb (hs.grow s1) (Sat.mono (show Sat (evSs T G b r) _ _ from h2) (fun fl efl q => q.conv (Stp.same s1) fun r' e => joinO_sub.2 (by
      subst e
      cases z : endSs b with
      | false => rfl
      | true => exact (endSs_nx b z efl).elim)) fun z hz => exE.same s1 hz)
theorem sYs_nil : SndYs c n G fr .nil := by
  intro _ T W sc X l o O O' hx hc how Mc H0 H P r σ hs D h
  match l, hc with
  | [], hc =>
  cases (show some O = some O' from how)
  exact PSs.wss pss_nil ((show FlQ X.K fr Mc H0 o O P H D (.nx r) from h) _ _ _ hs (Stp.same (Same.refl H)))
theorem sYs_one {s : IS} (ihs : tryS s = true → SndY c n G fr s) : SndYs c n G fr (.cons s .nil) := by
  intro htb T W sc X l o O O' hx hc how Mc H0 H P r σ hs D h
  have htb : (tryS s && true) = true := htb
  rw [Bool.and_true] at htb
  cases l with
  | nil => exact Bool.noConfusion hc
  | cons a l =>
  have hc : (ckX c X.N sc s a && ckXs c X.N sc .nil l) = true := hc
  rw [Bool.and_eq_true] at hc
  obtain ⟨hc1, hl⟩ := hc
  cases l with
  | cons _ _ => exact Bool.noConfusion hl
  | nil =>
  have how : ((owS c fr o O s).bind fun x => some x) = some O' := how
  obtain ⟨x, ea, how⟩ := Option.bind_eq_some_iff.mp how
  cases how
  refine PSs.wss (pss_cons ps_ws pss_nil) ?_
  have h : Sat ((evS T G s r).bind fun
    | .nx r1 => .ok (.nx r1)
    | .rt x => .ok (.rt x)
    | .bk r1 => .ok (.bk r1)
    | .ct r1 => .ok (.ct r1)) (FlQ X.K fr Mc H0 o _ P H D) (exE c.xc X.K W σ H) := h
  refine ihs htb hx hc1 ea hs (Sat.mono (Sat.bind h) (fun fl _ h1 => ?_) fun z hz => hz)
  cases fl with
  | nx r1 => exact h1
  | rt d => exact h1
  | bk r1 => exact h1
  | ct r1 => exact h1
theorem sYs_two {s s2 : IS} {ss : Ss} : SndYs c n G fr (.cons s (.cons s2 ss)) := by
  intro h
  have h' : (tryS s && false) = true := h
  rw [Bool.and_false] at h'
  cases h'
mutual
theorem sndY : ∀ s : IS, tryS s = true → SndY c n G fr s
  | .asg (.nm _) _, _ => sY_asgN
  | .expr _, _ => sY_expr
  | .ret _, _ => sY_ret
  | .ife _ a b, h => by
    have h : (tryB a && tryB b) = true := h
    rw [Bool.and_eq_true] at h
    exact sY_ife (sndYs a) (sndYs b) h.1 h.2
  | .asg (.tp _) _, h => by cases h
  | .par _ _ _ _, h => by cases h
  | .aug _ _ _, h => by cases h
  | .sets _ _ _, h => by cases h
  | .augs _ _ _ _, h => by cases h
  | .app _ _, h => by cases h
  | .ext _ _, h => by cases h
  | .ins _ _ _, h => by cases h
  | .clr _, h => by cases h
  | .rev _, h => by cases h
  | .pop _, h => by cases h
  | .popAt _ _, h => by cases h
  | .popSub _ _ _, h => by cases h
  | .popk _ _ _, h => by cases h
  | .setsl _ _ _ _, h => by cases h
  | .retN, h => by cases h
  | .whl _ _ _, h => by cases h
  | .forr _ _ _ _, h => by cases h
  | .forq _ _ _ _, h => by cases h
  | .brk, h => by cases h
  | .cont, h => by cases h
  | .pass, h => by cases h
  | .never, h => by cases h
  | .rais _ _ _, h => by cases h
  | .tryx _ _ _ _, h => by cases h
theorem sndYs : ∀ ss : Ss, SndYs c n G fr ss
  | .nil => sYs_nil
  | .cons s .nil => sYs_one (sndY s)
  | .cons s (.cons _ _) => sYs_two
end
theorem XR_inv {xl : List (Str × Option Str)} {K : PySem.W.Frag} {z : PL.D} {cls : Value} {dx : Option Addr} {H : Hp} (h : XR xl K z cls dx H) : ∃ cx f xs, z = .ex cx xs ∧ (cx, f) ∈ xl ∧ cls = .ref (He.ga K cx) ∧
    ((xs = [] ∧ dx = none) ∨ ∃ g y p v, f = some g ∧ xs = [.str g, y] ∧ flat y = true ∧ dx = some p ∧ H p = some (.xd [(g, v)]) ∧ Rep K F0 H y v) := by
  unfold XR at h
  split at h
  · obtain ⟨⟨f, h1⟩, h2, h3⟩ := h
    exact ⟨_, f, _, rfl, h1, h2, .inl ⟨rfl, h3⟩⟩
  · obtain ⟨h1, h2, h3, p, v, h4, h5, h6⟩ := h
    exact ⟨_, _, _, rfl, h1, h2, .inr ⟨_, _, p, v, rfl, rfl, h3, h4, h5, h6⟩⟩
  · exact h.elim
theorem cls_exm {T : List (Str × PL.D)} {W : WX} {sc : Scope} {X : Cx} (hx : SX c T n G W sc X) {x y : Str} {f : Option Str} (hxf : (x, f) ∈ c.xc) (h : clsN c sc y = true) : PySem.W.exmOne X.K (.ref (He.ga X.K x)) (clsU X.K y) = some (isSub x y) := by
  obtain ⟨g, db, h1 | h1⟩ := clsN_ok hx h
  · obtain ⟨f', hf'⟩ := h1
    have e : clsU X.K y = .ref (He.ga X.K y) := if_neg (hx.xc _ _ hf').nv
    rw [e]
    exact (hx.xcm _ _ _ _ hxf hf').1
  · obtain ⟨rfl, hm⟩ := h1
    have e : clsU X.K "ValueError" = .type "ValueError" := if_pos rfl
    rw [e, (hx.xc _ _ hxf).exV]
    unfold isSub
    simp
theorem cls_names {T : List (Str × PL.D)} {W : WX} {sc : Scope} {X : Cx} (hx : SX c T n G W sc X) {y : Str} (h : clsN c sc y = true) : Names X y (clsU X.K y) := by
  obtain ⟨g, db, h1 | h1⟩ := clsN_ok hx h
  · obtain ⟨f', hf'⟩ := h1
    have e : clsU X.K y = .ref (He.ga X.K y) := if_neg (hx.xc _ _ hf').nv
    rw [e]
    exact ⟨g, db, .inl (hx.xc _ _ hf').mg⟩
  · obtain ⟨rfl, hm⟩ := h1
    exact ⟨g, db, .inr ⟨hm, boot_VE, by decide⟩⟩
theorem look_app {d : PL.D} : ∀ T : List (Str × PL.D), (T ++ [(("" : Str), d)]).lookup ("" : Str) = match T.lookup ("" : Str) with | some y => some y | none => some d
  | [] => by simp [List.lookup]
  | p :: T => by
    obtain ⟨k, v⟩ := p
    rw [List.cons_append, List.lookup_cons, List.lookup_cons]
    split
    · rfl
    · exact look_app T
theorem cur_app {T : List (Str × PL.D)} {d : PL.D} {a : Int} {x : Str} {xs : List PL.D} (h : curE (T ++ [(("" : Str), d)]) = some (a, x, xs)) : curE T = some (a, x, xs) ∨ d = .ex x (.int a :: xs) := by
  unfold curE at h ⊢
  rw [look_app T] at h
  cases q : T.lookup ("" : Str) with
  | some y =>
    rw [q] at h
    exact .inl h
  | none =>
    rw [q] at h
    refine .inr ?_
    split at h
    · rename_i e2
      cases h
      exact Option.some.inj e2
    · cases h
theorem sX_tryx {b hh : Ss} {x : Str} {i : Option Nat} (ihb : SndYs c n G fr b) (ihh : SndXs { c with hot := true } n G fr hh) : SndX c n G fr (.tryx b x i hh) := by
  intro T W sc X st o O O' hx hc how Mc H0 H P r σ hs D h
  have hc : (match shTry st with
    | some (bl, (y, _), nm, b0, l, _) => !c.hot && (clsN c sc x && (decide (x = y) && (tryB b && (ckXs c X.N sc b bl && (ckXs { c with hot := true } X.N sc hh (b0 :: l) && tnB X.N sc i nm)))))
    | none => false) = true := hc
  cases es : shTry st with
  | none => rw [es] at hc; exact Bool.noConfusion hc
  | some q =>
  obtain ⟨bl, ⟨y, p1⟩, nm, b0, l, p2, pos⟩ := q
  rw [es] at hc
  obtain rfl := shTry_ok es
  clear es
  have hc : (!c.hot && (clsN c sc x && (decide (x = y) && (tryB b && (ckXs c X.N sc b bl && (ckXs { c with hot := true } X.N sc hh (b0 :: l) && tnB X.N sc i nm)))))) = true := hc
  rw [Bool.and_eq_true, Bool.and_eq_true, Bool.and_eq_true, Bool.and_eq_true, Bool.and_eq_true, Bool.and_eq_true, decide_eq_true_eq, Bool.not_eq_true'] at hc
  obtain ⟨h0, hcl, rfl, htb, hckb, hckh, hin⟩ := hc
  obtain ⟨i, n0, rfl, rfl, hN, hln⟩ : ∃ i0 n0, i = some i0 ∧ nm = some n0 ∧ X.N[i0]? = some n0 ∧ sc.names.lookup n0 = some .local := by
    cases i with
    | none => cases nm <;> cases hin
    | some i0 =>
      cases nm with
      | none => cases hin
      | some n0 =>
        have hin : (decide (X.N[i0]? = some n0) && decide (sc.names.lookup n0 = some .local)) = true := hin
        rw [Bool.and_eq_true, decide_eq_true_eq, decide_eq_true_eq] at hin
        exact ⟨_, _, rfl, rfl, hin.1, hin.2⟩
  have how : (if O.contains i = true then none else (owSs c fr o O b).bind fun x => (owSs { c with hot := true } fr o O hh).bind fun y => some (offO (joinO b hh x y) [i])) = some O' := how
  split at how
  · cases how
  rename_i hiO
  have hiO : i ∉ O := fun z => hiO (List.contains_iff_mem.mpr z)
  obtain ⟨xb, eb, how⟩ := Option.bind_eq_some_iff.mp how
  obtain ⟨xh, eh, how⟩ := Option.bind_eq_some_iff.mp how
  cases how
  have h : Sat (match evSs T G b r with
    | .ex x' => if mtc x x' = true then allA fun a b => noexF (goneF i) (evSs (T ++ [(("" : Str), exV a b x')]) G hh (r.set i (some (exV a b x')))) else .ex x'
    | y => y) (FlQ X.K fr Mc H0 o (offO (joinO b hh xb xh) [i]) P H D) (exS c.xc X.K W H0) := h
  refine PS.ws (L2N.ps_try_as hx.stk hx.frm hx.nd hN (by show X.env.scope.names.lookup n0 = _; rw [hx.scope]; exact hln) (cls_names hx.toSX hcl) hx.tk
    (tb := fun W' D' σ' H' => ∀ pn xe, L2N.Takes (X.tr pn xe) W' → PassesOwn (model X.prog X.w) X.A X.env xe → WSs (X.tr pn xe) bl D' σ' H')
    (ts := fun a cls d D' σ' H' => ∀ oe pn, L2N.Zn cls d oe → (∃ vs, oe.data = .fields vs) → WSs (X.suite a ((a, oe) :: pn)) (b0 :: l) D' σ' H')
    (fun W' pn xe tk ps => ⟨fun pins s _ _ _ I q => q pn xe tk ps pins s I⟩) (fun a oe cls d pn hz hf => ⟨fun pins s _ _ _ I q => q oe pn hz hf pins s I⟩)) ?_
  intro pn xe tkb psb
  have hxc : ∀ (x : Str) (f : Option Str), (x, f) ∈ c.xc → XcO X x f := hx.xc
  have hxb : SXs c T n G (wAs X.K (clsU X.K x) i (fun a cls d D' σ' H' => ∀ oe pn, L2N.Zn cls d oe → (∃ vs, oe.data = .fields vs) → WSs (X.suite a ((a, oe) :: pn)) (b0 :: l) D' σ' H') W D) sc (X.tr pn xe) :=
    { nd := hx.nd, calm := hx.calm, scope := hx.scope, room := hx.room, roomH := hx.roomH, hotc := (fun z => by rw [h0] at z; cases z), tk := tkb, free := hx.free, fn := fun j d q => ⟨(hx.fn j d q).ex⟩, cst := hx.cst,
      xc := fun x f q => let z := hx.xc x f q; ⟨z.nv, z.mg, z.keep, z.typ, z.exB, z.exc, z.ga, z.gg, z.hd, z.ca, z.mro, z.exV, z.ktV, z.fld⟩, xcm := hx.xcm, spc := hx.spc, cur := (fun a x xs q => by have z := (hx.cur a x xs q).1; rw [h0] at z; cases z),
      kind := hx.kind, fnT := hx.fnT, pass := psb, stk := hx.stk, frm := hx.frm }
  refine ihb htb hxb hckb eb hs ?_
  cases e : evSs T G b r with
  | no => rw [e] at h; exact h.elim
  | ok fl =>
    rw [e] at h
    have h : FlQ X.K fr Mc H0 o (offO (joinO b hh xb xh) [i]) P H D fl := h
    exact FlQ.conv (Stp.same (Same.refl H)) (fun r' er j hj => joinO_sub.1 (by
      subst er
      cases z : endSs b with
      | false => rfl
      | true => exact (endSs_nx b z e).elim) j (mem_offO.mp hj).1) h
  | ex z =>
    rw [e] at h
    have h : Sat (if mtc x z = true then allA fun a b => noexF (goneF i) (evSs (T ++ [(("" : Str), exV a b z)]) G hh (r.set i (some (exV a b z)))) else .ex z) (FlQ X.K fr Mc H0 o (offO (joinO b hh xb xh) [i]) P H D) (exS c.xc X.K W H0) := h
    intro H' cls dx s' xr
    obtain ⟨cx, f, xs, rfl, hmem, rfl, hxs⟩ := XR_inv xr
    refine ⟨isSub cx x, cls_exm hx.toSX hmem hcl, fun hb a ha => ?_, fun hb => ?_⟩
    · have hm : mtc x (.ex cx xs) = true := hb
      rw [if_pos hm] at h
      cases ea : (allA fun a b => noexF (goneF i) (evSs (T ++ [(("" : Str), exV a b (.ex cx xs))]) G hh (r.set i (some (exV a b (.ex cx xs)))))) with
      | no => rw [ea] at h; exact h.elim
      | ex z =>
        exfalso
        unfold allA at ea
        split at ea
        · have ea : noexF (goneF i) (evSs (T ++ [(("" : Str), exV 0 0 (.ex cx xs))]) G hh (r.set i (some (exV 0 0 (.ex cx xs))))) = .ex z := ea
          cases q : (evSs (T ++ [(("" : Str), exV 0 0 (.ex cx xs))]) G hh (r.set i (some (exV 0 0 (.ex cx xs))))) <;> (rw [q] at ea; cases ea)
        · cases ea
      | ok fl =>
      rw [ea] at h
      let dd : Int := match dx with | some p => (p : Nat) | none => 0
      obtain ⟨fl', efl, eg⟩ := noexF_ok (allA_ok ea (a : Nat) dd)
      intro oe pn2 hzn hfl
      obtain ⟨vs, hvs⟩ := hfl
      have hcur : ∀ a' x' xs', curE (T ++ [(("" : Str), exV (a : Nat) dd (.ex cx xs))]) = some (a', x', xs') → true = true ∧ ∃ (e : Addr) (oe' : Obj) (d : Option Addr) (f : Option Str), a' = (e : Int) ∧ (x', f) ∈ c.xc ∧ (e, oe') ∈ (a, oe) :: pn2 ∧ Zc (.ref (He.ga X.K x')) d oe' ∧ (∃ vs, oe'.data = .fields vs) ∧
          ((xs' = [] ∧ d = none) ∨ ∃ dd g y, f = some g ∧ xs' = [.int dd, .str g, y] ∧ d = some dd.toNat) := by
        intro a' x' xs' q
        refine ⟨rfl, ?_⟩
        rcases cur_app q with q | q
        · have z := (hx.cur a' x' xs' q).1
          rw [h0] at z; cases z
        · rcases hxs with ⟨rfl, rfl⟩ | ⟨g, y, p, v, rfl, rfl, hfy, rfl, hp, hr⟩
          · have q : PL.D.ex cx [.int (a : Nat)] = .ex x' (.int a' :: xs') := q
            cases q
            exact ⟨a, oe, none, f, rfl, hmem, List.mem_cons_self .., hzn.zc, ⟨vs, hvs⟩, .inl ⟨rfl, rfl⟩⟩
          · have q : PL.D.ex cx [.int (a : Nat), .int dd, .str g, y] = .ex x' (.int a' :: xs') := q
            cases q
            exact ⟨a, oe, some p, some g, rfl, hmem, List.mem_cons_self .., hzn.zc, ⟨vs, hvs⟩, .inr ⟨_, _, _, rfl, rfl, rfl⟩⟩
      have hxs2 : SXs { c with hot := true } (T ++ [(("" : Str), exV (a : Nat) dd (.ex cx xs))]) n G (fun _ _ _ _ => False) sc (X.suite a ((a, oe) :: pn2)) :=
        { nd := hx.nd, calm := (fun z => by cases z), scope := hx.scope, room := (fun z => by cases z), roomH := ⟨hx.roomH.dp, hx.roomH.un⟩, hotc := fun _ => ⟨(a, oe), ⟨rfl, vs, hvs, hzn.2.2 vs hvs⟩, List.mem_cons_self ..⟩, tk := takes0N, free := hx.free, fn := fun j d q => ⟨(hx.fn j d q).ex⟩,
          cst := fun j p q => ⟨by rw [List.getElem?_append_left (List.getElem?_eq_some_iff.mp (hx.cst j p q).1).1]; exact (hx.cst j p q).1, (hx.cst j p q).2⟩,
          xc := fun x f q => let z := hx.xc x f q; ⟨z.nv, z.mg, z.keep, z.typ, z.exB, z.exc, z.ga, z.gg, z.hd, z.ca, z.mro, z.exV, z.ktV, z.fld⟩, xcm := hx.xcm, spc := hx.spc,
          cur := hcur,
          kind := hx.kind, fnT := hx.fnT, pass := PassesOwn.never, stk := hx.stk, frm := hx.frm }
      have hrep : Rep X.K (MM Mc P []) H' (exV (a : Nat) dd (.ex cx xs)) (.ref a) := by
        rcases hxs with ⟨rfl, rfl⟩ | ⟨g, y, p, v, rfl, rfl, hfy, rfl, hp, hr⟩
        · exact ⟨[.int (a : Nat)], ⟨_, _, rfl, rfl, rfl⟩, rfl⟩
        · refine ⟨[.int (a : Nat), .int (p : Nat), .str g, v], ⟨_, _, rfl, rfl, _, _, rfl, rfl, _, _, rfl, rfl, _, _, rfl, Rep.flat_any _ _ hfy hr, rfl⟩, rfl, hfy, fun z => ?_, .inl hp⟩
          obtain ⟨ob, e1, e2⟩ := (hs.grow s').trk [] _ z
          have e3 := hp.symm.trans e1
          cases e3
          exact e2
      have hs2 := (hs.grow s').set (i := i) (hs.noP hiO) hiO hrep
      refine ihh hxs2 hckh eh hs2 ?_
      rw [efl]
      have h : FlQ X.K fr Mc H0 o (offO (joinO b hh xb xh) [i]) P H D fl := h
      subst eg
      have st0 : Stp P H P H' := Stp.same s'
      cases fl' with
      | nx r1 =>
        intro P1 σ1 H1 s1 st1
        obtain ⟨P3, s3, st3⟩ := (s1.forget i).only (O' := offO (joinO b hh xb xh) [i]) fun j hj => joinO_sub.2 (by
          cases z : endSs hh with
          | false => rfl
          | true => exact (endSs_nx hh z efl).elim) j (mem_offO.mp hj).1
        exact (show ∀ P' σ' H', SR X.K Mc H0 (offO (joinO b hh xb xh) [i]) P' (r1.set i none) σ' H' → Stp P H P' H' → D.nx σ' H' from h) _ _ _ s3 ((st0.trans st1).trans st3)
      | rt d => exact h
      | bk r1 => exact fun P1 σ1 H1 s1 st1 => (show ∀ P' σ' H', SR X.K Mc H0 o P' (r1.set i none) σ' H' → Stp P H P' H' → D.bk σ' H' from h) _ _ _ (s1.forget i) (st0.trans st1)
      | ct r1 => exact fun P1 σ1 H1 s1 st1 => (show ∀ P' σ' H', SR X.K Mc H0 o P' (r1.set i none) σ' H' → Stp P H P' H' → D.ct σ' H' from h) _ _ _ (s1.forget i) (st0.trans st1)
    · have hm : ¬ mtc x (.ex cx xs) = true := fun z => by rw [show mtc x (.ex cx xs) = isSub cx x from rfl, hb] at z; cases z
      rw [if_neg hm] at h
      exact (show exS c.xc X.K W H0 (.ex cx xs) from h) σ H' _ _ (hs.same.trans s') xr
mutual
theorem sndX : ∀ (s : IS) {c : Ck}, SndX c n G fr s
  | .asg (.nm _) _ => sX_asgN
  | .asg (.tp _) _ => sX_asgT
  | .par _ _ _ _ => sX_par
  | .aug _ _ _ => sX_aug
  | .sets _ _ _ => sX_sets
  | .augs _ _ _ _ => sX_augs
  | .app _ _ => sX_app
  | .ext _ _ => sX_ext
  | .ins _ _ _ => sX_ins
  | .clr _ => sX_clr
  | .rev _ => sX_rev
  | .pop _ => sX_pop
  | .popAt _ _ => sX_popAt
  | .popSub _ _ _ => sX_popSub
  | .popk _ _ _ => sX_popk
  | .rais _ _ _ => sX_rais
  | .tryx b _ _ h => sX_tryx (sndYs b) (sndXs h)
  | .setsl _ _ _ _ => sX_setsl
  | .expr _ => sX_expr
  | .ret _ => sX_ret
  | .retN => sX_retN
  | .ife _ a b => sX_ife (sndXs a) (sndXs b)
  | .whl _ _ b => sX_whl (sndXs b)
  | .forr _ _ _ b => sX_forr (sndXs b)
  | .forq _ _ _ b => sX_forq b
  | .brk => sX_brk
  | .cont => sX_cont
  | .pass => sX_pass
  | .never => sX_never
theorem sndXs : ∀ (ss : Ss) {c : Ck}, SndXs c n G fr ss
  | .nil => sXs_nil
  | .cons s ss => sXs_cons (sndX s) (sndXs ss)
end
end
end PL

namespace PL
open L2 PyProof.Rows PySem.Spec PySem

/-- the look at a def -/
def dB (c : Ck) (d : DI) (st : Stmt) : Bool :=
  decide ((defScope st).kind = .function) && (decide ((defScope st).isCoroutine = false) && (decide ((defScope st).isGenerator = false) && (decide d.ns.Nodup && (decide (d.ps ≤ d.ns.length) && ((d.ns.take d.ps).all (locC (defScope st)) &&
    ((defScope st).names.all (fun y => decide (y.2 ≠ .free)) && (ckXs c d.ns (defScope st) d.body (defBody st) && ((owSs c d.fr [] [] d.body).isSome && (!d.hot || (ckXs { c with hot := true } d.ns (defScope st) d.body (defBody st) && (owSs { c with hot := true } d.fr [] [] d.body).isSome))))))))))
theorem start_sr {K : PySem.W.Frag} {M : AS} {H : Hp} {ds : List D} {vs : List V} {N : List Str} (t : Trk M H) (h : Reps K M H ds vs) : SR K M H [] (fun _ => none) (startE N.length ds) (start N vs) H := by
  have hl := h.len
  refine ⟨Same.refl H, t, (fun i a e => by cases e), (fun i j a e => by cases e), ?_, fun i d e => ?_⟩
  · unfold startE L2.start
    rw [List.length_append, List.length_append, List.length_map, List.length_map, List.length_replicate, List.length_replicate, hl]
  · unfold startE at e
    by_cases q : i < ds.length
    · rw [List.getElem?_append_left (by rw [List.length_map]; exact q), List.getElem?_map] at e
      cases q2 : ds[i]? with
      | none => rw [q2] at e; cases e
      | some d2 =>
        rw [q2] at e
        cases e
        obtain ⟨v, hv, hr⟩ := h.get q2
        refine ⟨v, ?_, ?_, fun z => absurd z (by simp)⟩
        · unfold L2.start
          rw [List.getElem?_append_left (by rw [List.length_map, hl]; exact q), List.getElem?_map, hv]
          rfl
        · exact Rep.less (fun a z => by
            rcases z with z | ⟨j, _, z⟩
            · exact z
            · cases z) hr
    · rw [List.getElem?_append_right (by rw [List.length_map]; omega), List.getElem?_replicate] at e
      split at e <;> cases e
def DefF (K : PySem.W.Frag) (mg : Str → Option Value) (c : Ck) (d : DI) : Prop := ∃ (st : Stmt) (f : Addr) (fd : FuncData), dB c d st = true ∧ FunD K d.nm d.nm (defArgs st) (defBody st) (defScope st) (d.dfl.map vOf) [] f fd ∧ mg d.nm = some (.ref f) ∧
  (∀ m, m ≤ d.ps → d.ps ≤ m + d.dfl.length → ∃ ds, Vals ((d.dfl.drop (m + d.dfl.length - d.ps)).map vOf) ds ∧ Binds K fd (d.ns.take d.ps) ds) ∧
  (d.kw = true → ∀ (nm : Str), (d.ns.take d.ps).getLast? = some nm → ∀ (s : Shared) (us : List Value) (w : Value), K.In s.heap → us.length + 1 = d.ps → BindsTo s fd ⟨us, [(nm, w)]⟩ ((d.ns.take d.ps).zip (us ++ [w]))) ∧
  (d.dfl = [] → ∀ (s : Shared) (us : List Value), us.length = (d.ns.take d.ps).length → BindsTo s fd ⟨us, []⟩ ((d.ns.take d.ps).zip us))
def DefO (xl : List (Str × Option Str)) (P : Program) (w : World) (K : PySem.W.Frag) (mg : Str → Option Value) (n : Nat) (G : Ga) (j : Nat) (d : DI) : Prop := ∃ f fd, mg d.nm = some (.ref f) ∧ PySem.W.keepIn K (.ref f) = true ∧
  (∀ base, FnOk P w K mg base (L2N.CX P w) (n + 2) f fd (d.ns.take d.ps) (spP xl K d.ps d.fr (G j))) ∧ (∀ m, m ≤ d.ps → d.ps ≤ m + d.dfl.length → ∃ ds, Vals ((d.dfl.drop (m + d.dfl.length - d.ps)).map vOf) ds ∧ Binds K fd (d.ns.take d.ps) ds) ∧
  (d.kw = true → ∀ (nm : Str), (d.ns.take d.ps).getLast? = some nm → ∀ (s : Shared) (us : List Value) (w : Value), K.In s.heap → us.length + 1 = d.ps → BindsTo s fd ⟨us, [(nm, w)]⟩ ((d.ns.take d.ps).zip (us ++ [w]))) ∧
  (d.dfl = [] → ∀ (s : Shared) (us : List Value), us.length = (d.ns.take d.ps).length → BindsTo s fd ⟨us, []⟩ ((d.ns.take d.ps).zip us)) ∧
  (d.hot = true → ∀ base, L2H.FnH P w K mg base (L2N.CX P w) (n + 2) f fd (d.ns.take d.ps) (spP xl K d.ps d.fr (G j)))
theorem fn_ok0 {P : Program} {w : World} {K : PySem.W.Frag} {mg : Str → Option Value} {base : Heap} {CX : CXT} {k : Nat} {f : Addr} {fd : FuncData} {ps : List Str} {sp : Sp} (h : ∀ vs H Q E, ¬ sp vs H Q E) : FnOk P w K mg base CX k f fd ps sp :=
  ⟨fun vs H Q E q => (h _ _ _ _ q).elim, fun A outer s H args us vs Q E hr e0 hb r q => (h _ _ _ _ q).elim⟩
theorem res_non {K : PySem.W.Frag} {fr : Bool} {Mt Mi : AS} {H H' : Hp} : Res K fr Mt Mi H H' .non .non := by cases fr <;> exact (rfl : V.non = V.non)
theorem fn_ok0H {P : Program} {w : World} {K : PySem.W.Frag} {mg : Str → Option Value} {base : Heap} {CX : CXT} {k : Nat} {f : Addr} {fd : FuncData} {ps : List Str} {sp : Sp} (h : ∀ vs H Q E, ¬ sp vs H Q E) : L2H.FnH P w K mg base CX k f fd ps sp :=
  ⟨fun vs H Q E q => (h _ _ _ _ q).elim, fun A outer s H args us vs Q E p hr h1 hp e0 hb r q => (h _ _ _ _ q).elim⟩
theorem ok_all {P : Program} {w : World} {K : PySem.W.Frag} {mg : Str → Option Value} (c : Ck) (hch : c.hot = false) (hcur : curE c.cst = none) (hfree : ∀ x, c.free.contains x = true → mg x = none)
    (hxc : ∀ X : Cx, X.prog = P → X.w = w → X.K = K → X.mg = mg → ∀ x f, (x, f) ∈ c.xc → XcO X x f)
    (hxm : ∀ x f y g, (x, f) ∈ c.xc → (y, g) ∈ c.xc → PySem.W.exmOne K (.ref (He.ga K x)) (.ref (He.ga K y)) = some (isSub x y) ∧ PySem.W.kitOne K (.ref (He.ga K x)) (.ref (He.ga K y)) = some (isSub x y))
    (hsp : c.xc ≠ [] → PySem.W.specialIn K (.builtin "object.__class__") "__get__" = some (some (.builtin "getset_descriptor.__get__")) ∧ PySem.W.takesIn K (.builtin "object.__class__") = some true)
    (hcst : ∀ (j : Nat) (p : Str × D), c.cst[j]? = some p → ∃ u v, mg p.1 = some u ∧ RelV v u ∧ ∀ M H, Rep K M H p.2 v) (hF : ∀ (j : Nat) (d : DI), c.fs[j]? = some d → DefF K mg c d) :
    ∀ (n j : Nat) (d : DI), c.fs[j]? = some d → DefO c.xc P w K mg n (GA c.cst c.fs n) j d
  | 0, j, d, hj => by
    obtain ⟨st, f, fd, _, F, hm, h1, h2, h3⟩ := hF j d hj
    exact ⟨f, fd, hm, F.kp, fun base => fn_ok0 fun vs H Q E ⟨ds, M, _, _, _, q⟩ => q, h1, h2, h3, fun _ base => fn_ok0H fun vs H Q E ⟨ds, M, _, _, _, q⟩ => q⟩
  | n + 1, j, d, hj => by
    obtain ⟨st, f, fd, hd, F, hm, hb1, hb2, hb3⟩ := hF j d hj
    unfold dB at hd
    simp only [Bool.and_eq_true, decide_eq_true_eq] at hd
    obtain ⟨h1, h2, h3, h4, h5, h6, h7, h8, h9, h10⟩ := hd
    obtain ⟨O', hO⟩ := Option.isSome_iff_exists.mp h9
    have hps : (d.ns.take d.ps).length = d.ps := by rw [List.length_take]; omega
    have S : FnScope d.ns (d.ns.take d.ps) (defScope st) := ⟨h1, h2, h3, h4, by rw [hps], (fun x hx => by
      have q := List.all_eq_true.mp h6 x hx
      unfold locC at q
      split at q
      · rename_i e; exact .inl e
      · rename_i e; exact .inr e
      · cases q), (fun y hy => of_decide_eq_true (List.all_eq_true.mp h7 y hy))⟩
    have hlen : ∀ vs H Q E, spP c.xc K d.ps d.fr (GA c.cst c.fs (n + 1) j) vs H Q E → vs.length = (d.ns.take d.ps).length := fun vs H Q E q => by
      obtain ⟨ds, M, hl, hR, _, _⟩ := q
      rw [hps, hR.len, hl]
    have hfn : ∀ (base : Heap) (X : Cx), X.prog = P → X.w = w → X.K = K → X.mg = mg → X.base = base → ∀ j' d', c.fs[j']? = some d' → FO c.xc X n (GA c.cst c.fs n) j' d' := fun base X e1 e2 e3 e4 e5 j' d' q => by
      obtain ⟨f, fd, a1, a2, a3, a4, a5, a6, a7⟩ := ok_all c hch hcur hfree hxc hxm hsp hcst hF n j' d' q
      subst e1 e2 e3 e4 e5
      exact ⟨f, fd, a1, a2, a3 _, a4, a5, fun z => a7 z _⟩
    have hend : ∀ {ds : List D} {M : AS} {H : Hp} {Q : VK} {E : XK}, ds.length = d.ps → Sat (GA c.cst c.fs (n + 1) j ds) (fun d' => ∀ v H', Same H H' → Res K d.fr M M H H' d' v → Q v H') (fun x => ∀ H' cls dx, Same H H' → XR c.xc K x cls dx H' → E cls dx H') →
        ∀ {P0 : Nat → Option Addr} {O2 : List Nat} {H1 : Hp}, Sat (evSs c.cst (GA c.cst c.fs n) d.body (startE d.ns.length ds)) (FlQ K d.fr M H [] O2 P0 H1 { nx := fun _ H' => Q .non H', rt := Q }) (exS c.xc K (fun cls dx _ H' => E cls dx H') H) := fun {ds M H Q E} hl q {P0 O2 H1} => by
      have q : Sat (match c.fs[j]? with
        | some d => runD c.cst (GA c.cst c.fs n) d ds
        | none => .no) (fun d' => ∀ v H', Same H H' → Res K d.fr M M H H' d' v → Q v H') (fun x => ∀ H' cls dx, Same H H' → XR c.xc K x cls dx H' → E cls dx H') := q
      rw [hj] at q
      have q : Sat (if ds.length = d.ps then (evSs c.cst (GA c.cst c.fs n) d.body (startE d.ns.length ds)).bind fun
        | .nx _ => .ok .non
        | .rt x => .ok x
        | _ => .no
        else .no) (fun d' => ∀ v H', Same H H' → Res K d.fr M M H H' d' v → Q v H') (fun x => ∀ H' cls dx, Same H H' → XR c.xc K x cls dx H' → E cls dx H') := q
      rw [if_pos hl] at q
      refine Sat.mono (Sat.bind q) (fun fl _ h => ?_) fun z hz σ' H' cls dx s' x => hz H' cls dx s' x
      cases fl with
      | nx r => exact fun P' σ' H' s' _ => (show ∀ v H', Same H H' → Res K d.fr M M H H' .non v → Q v H' from h) _ _ s'.same res_non
      | rt x => exact h
      | bk r => exact h.elim
      | ct r => exact h.elim
    refine ⟨f, fd, hm, F.kp, fun base => F.ok S hlen (fun cdv A outer s H vs Q E hr hsp' => ⟨_, pss_wss, ?_⟩), hb1, hb2, hb3, fun hhot base => ?_⟩
    · obtain ⟨ds, M, hl, hR, ht, q⟩ := hsp'
      have hx : SXs c c.cst n (GA c.cst c.fs n) (fun cls dx _ H' => E cls dx H') (defScope st) (cxOf (L2N.CX P w) P w K mg base d.ns d.nm (defScope st) f cdv A outer s H E) :=
        { nd := h4, calm := fun _ => rfl, scope := rfl, room := fun _ => hr, roomH := L2H.roomH_of hr, hotc := (fun z => by rw [hch] at z; cases z), tk := L2N.takes_of rfl rfl rfl rfl, free := hfree,
          fn := hfn base _ rfl rfl rfl rfl rfl, cst := fun j p q => ⟨q, hcst j p q⟩, xc := hxc _ rfl rfl rfl rfl, xcm := hxm, spc := hsp, cur := (fun a x xs z => by rw [hcur] at z; cases z),
          kind := h1, fnT := fun _ => rfl, pass := passes_of rfl, stk := rfl, frm := rfl }
      exact sndXs d.body hx h8 hO (start_sr ht hR) (hend hl q)
    · rw [hhot] at h10
      have h10 : (ckXs { c with hot := true } d.ns (defScope st) d.body (defBody st) && (owSs { c with hot := true } d.fr [] [] d.body).isSome) = true := h10
      rw [Bool.and_eq_true] at h10
      obtain ⟨h11, h12⟩ := h10
      obtain ⟨O2, hO2⟩ := Option.isSome_iff_exists.mp h12
      (obtain ⟨oc, od, dV, kV, doc, pm, an, cdv, ct, osl, rfl, lk, hcd, _, _⟩ := F.ex)
      refine L2H.fn_ofH lk hcd S hlen fun A outer s H vs Q E p hot hr hsp' => ⟨_, pss_wss, ?_⟩
      obtain ⟨ds, M, hl, hR, ht, q⟩ := hsp'
      have hx : SXs { c with hot := true } c.cst n (GA c.cst c.fs n) (fun cls dx _ H' => E cls dx H') (defScope st) (L2H.cxH (L2N.CX P w) P w K mg base d.ns d.nm (defScope st) f cdv A outer s H E p) :=
        { nd := h4, calm := (fun z => by cases z), scope := rfl, room := (fun z => by cases z), roomH := hr, hotc := fun _ => ⟨p, hot, List.mem_cons_self ..⟩, tk := L2N.takes_of rfl rfl rfl rfl, free := hfree,
          fn := hfn base _ rfl rfl rfl rfl rfl, cst := fun j p q => ⟨q, hcst j p q⟩, xc := hxc _ rfl rfl rfl rfl, xcm := hxm, spc := hsp, cur := (fun a x xs z => by rw [hcur] at z; cases z),
          kind := h1, fnT := fun _ => rfl, pass := passes_of rfl, stk := rfl, frm := rfl }
      exact sndXs d.body hx h11 hO2 (start_sr ht hR) (hend hl q)
end PL

namespace PL
open L2 PyProof.Rows PySem.Spec PySem
section
variable {X : Cx}
/-- B.__init__(self, ..), B an own class that has ValueError's -/
theorem pe_cinit {b : Str} {e : Expr} {es : List Expr} {ta : TA} {p1 p2 pos : Pos} {B : Addr} (hg : Gl X b) (hm : X.mg b = some (.ref B)) (hdb : (b == ("__debug__" : Str)) = false) (g1 : PySem.W.specialIn X.K (.ref B) "__getattribute__" = some (some (.builtin "type.__getattribute__")))
    (g2 : PySem.W.readsIn X.K B (.type "type") = true) (g3 : PySem.W.findCls X.K (.ref B) (.type "type") "__init__" = some (.val (.builtin "ValueError.__init__"))) (ha : PA X (e :: es) ta) (hl : (p2.endLine == pos.line) = true)
    (hfew : ((backTo pos (starEach (e :: es) X.env)).all (fun x => !x.1) && (backToKw pos (keywordEach [] X.env)).all (fun x => x.1.isSome) && decide ((e :: es).length + ([] : List Keyword).length + (if ([] : List Keyword).isEmpty then 0 else 1) < 30)) = true)
    (he : starEach (e :: es) X.env = (false, eval e X.env) :: starEach es X.env) (hpl : (backTo pos (starEach es X.env)).any (·.1) = false) : PE X (.Call (.Attribute (.Name b p1) "__init__" p2) (e :: es) [] pos) (tVeI X.K ta) := by
  (refine ⟨fun pins s σ H Q I h => ?_⟩)
  have hbase : attributeBase (.Name b p1) "__init__" X.env (eval (.Name b p1) X.env) = eval (.Name b p1) X.env := rfl
  rw [arm_eval_Call, hbase]
  refine wpAny_bind (ld_glob I hg hm ?_ hdb)
  (refine wpAny_bind (wpAny_standAt ?_))
  have fin : ∀ tk, wpAny (model X.prog X.w) X.A (callWith pos (Value.builtin "ValueError.__init__") [] (backTo pos (starEach (e :: es) X.env)) []) (EP X pins σ Q) X.xe { s with toks := tk } := fun tk => by
    (refine PyProof.Rows.callWith_method1 (thn (ha.run pos pins _ σ H _ (I.tok _) h) fun us s1 ⟨vs, H1, I1, r1, a, C, ws, ev, hl, T, ea, q⟩ => ?_) he hpl)
    subst ev
    cases r1 with
    | @cons _ u0 _ ur ra rw' =>
      (obtain rfl : u0 = Value.ref a := ra)
      have hlen : (ur.length ≤ sizeLine) := by
        (rw [← Paired.length rw', sizeLine_eq])
        omega
      (exact oinit_ok T I1 ea hlen fun s' J => ⟨.non, H1, J, rfl, q⟩)
  have hform : methodCallForm ((e :: es).length + ([] : List Keyword).length) (backTo pos (starEach (e :: es) X.env)) (backToKw pos (keywordEach [] X.env)) = true := hfew
  have hpos : methodCallPos true (.Name b p1) X.env p2 pos = pure pos := by unfold methodCallPos; simp [hl]
  unfold methodCall
  rw [hform]
  refine wpAny_bind (wpAny_holding (PySem.W.method_cls I.kIn g1 (PySem.W.cls_value I.kIn g2 g3 rfl ?_)))
  exact wpAny_bind (wpAny_of_eq hpos (fin _))
end
/-- def __init__(self, g): InnError.__init__(self, '..'); self.g = g -/
def iniB (g : Str) : List Stmt → Bool
  | [.Expr (.Call (.Attribute (.Name b p1) m p2) [.Name s0 p3, .Constant (.str _) _ _] [] pos) _, .Assign [.Attribute (.Name s1 p4) g1 _] (.Name g2 p5) _] =>
    decide (b = "InnError") && (decide (m = "__init__") && ((p2.endLine == pos.line) && (decide (s0 = "self") && (decide (s1 = "self") && (decide (g1 = g) && decide (g2 = g))))))
  | _ => false
/-- the look at such a def -/
def iniS (g : Str) (st : Stmt) : Bool :=
  decide ((defScope st).kind = .function) && (decide ((defScope st).isCoroutine = false) && (decide ((defScope st).isGenerator = false) && (locB (defScope st) "self" && (locB (defScope st) g && (glB (defScope st) "InnError" &&
    ((defScope st).names.all (fun y => decide (y.2 ≠ .free)) && (iniB g (defBody st) && (nmB g && decide (g ≠ "self")))))))))
theorem loc_of {sc : Scope} {x : Str} (h : locB sc x = true) : sc.names.lookup x = some .local := by
  unfold locB at h
  split at h
  · rename_i e; exact e
  · cases h
theorem ini_ok {P : Program} {w : World} {K : PySem.W.Frag} {mg : Str → Option Value} {base : Heap} {x g qual nm : Str} {st : Stmt} {fI : Addr} {fd : FuncData} {B C : Addr} (hs : iniS g st = true) (F : FunD K nm qual (defArgs st) (defBody st) (defScope st) [] [] fI fd)
    (hm : mg "InnError" = some (.ref B)) (g1 : PySem.W.specialIn K (.ref B) "__getattribute__" = some (some (.builtin "type.__getattribute__")))
    (g2 : PySem.W.readsIn K B (.type "type") = true) (g3 : PySem.W.findCls K (.ref B) (.type "type") "__init__" = some (.val (.builtin "ValueError.__init__"))) (To : OexC K C) (hno : PySem.W.findIn K (.ref C) g = some none) :
    FnOk P w K mg base (L2N.CX P w) 1 fI fd [("self" : Str), g] (fun vs H Q E => ∃ (a : Addr) (v : V), vs = [.ref a, v] ∧ H a = some (exo a C none) ∧ ∀ dx, H dx = none → dx ≠ a → Q .non (upd (upd H dx (exd dx [(g, v)])) a (exo a C (some dx)))) := by
  unfold iniS at hs
  simp only [Bool.and_eq_true, decide_eq_true_eq] at hs
  obtain ⟨h1, h2, h3, h4, h5, h6, h7, h8, h9, h10⟩ := hs
  have h4 := loc_of h4
  have h5 := loc_of h5
  have h6 : (defScope st).names.lookup ("InnError" : Str) = some .globalImplicit := of_decide_eq_true h6
  have hne : ("self" : Str) ≠ g := fun z => h10 z.symm
  have nd : ([("self" : Str), g] : List Str).Nodup := by
    refine List.nodup_cons.mpr ⟨fun z => ?_, by simp⟩
    exact hne (List.mem_singleton.mp z)
  have S : FnScope [("self" : Str), g] [("self" : Str), g] (defScope st) := ⟨h1, h2, h3, nd, rfl, (fun y hy => by
    (rcases List.mem_cons.mp hy with rfl | hy)
    · exact .inl h4
    · rw [List.mem_singleton.mp hy]; exact .inl h5), (fun y hy => of_decide_eq_true (List.all_eq_true.mp h7 y hy))⟩
  refine F.ok S (fun vs H Q E q => ?_) (fun cdv A outer s H vs Q E hr hsp => ?_)
  · obtain ⟨a, v, rfl, _⟩ := q
    rfl
  · obtain ⟨a, v, rfl, ha, q⟩ := hsp
    generalize hX : cxOf (L2N.CX P w) P w K mg base [("self" : Str), g] qual (defScope st) fI cdv A outer s H E = X
    have e1 : X.K = K := by rw [← hX]; rfl
    have e2 : X.mg = mg := by rw [← hX]; rfl
    have e3 : X.N = [("self" : Str), g] := by rw [← hX]; rfl
    have e4 : X.env.scope = defScope st := by rw [← hX]; rfl
    clear hX
    generalize defBody st = body at h8
    unfold iniB at h8
    split at h8
    · rename_i b p1 m p2 s0 p3 z1 z2 z3 pos z4 s1 p4 ga z5 g0 p5 z6
      simp only [Bool.and_eq_true, decide_eq_true_eq] at h8
      obtain ⟨rfl, rfl, hl, rfl, rfl, rfl, rfl⟩ := h8
      have n0 : X.N[0]? = some ("self" : Str) := by rw [e3]; rfl
      have n1 : X.N[1]? = some g0 := by rw [e3]; rfl
      have v0 : Vis X.env.scope "self" := .inl (by rw [e4]; exact h4)
      have v1 : Vis X.env.scope g0 := .inl (by rw [e4]; exact h5)
      have pS : ∀ p, PE X (.Name "self" p) (tVar 0) := fun p => pe_var n0 v0 (by decide) (by decide)
      have pG : ∀ p, PE X (.Name g0 p) (tVar 1) := fun p => pe_var n1 v1 (nmB_ok h9).1 (nmB_ok h9).2
      have hg : Gl X "InnError" := by show X.env.scope.names.lookup ("InnError" : Str) = _; rw [e4]; exact h6
      refine ⟨_, pss_cons (ps_expr (pe_cinit hg (by rw [e2]; exact hm) (by decide) (by rw [e1]; exact g1) (by rw [e1]; exact g2) (by rw [e1]; exact g3) (pa_cons (pS _) (pa_cons pe_str pa_nil rfl) rfl) hl (by rfl) (by rfl) (by rfl)) (sw_no rfl)) (pss_cons (ps_ost (pS _) (pG _) (sw_no rfl)) pss_nil), ?_⟩
      refine ⟨.ref a, rfl, a, C, [.str _], rfl, by show (1 : Nat) ≤ 1000; omega, by rw [e1]; exact To, ha, ?_⟩
      refine ⟨v, rfl, .ref a, rfl, a, C, rfl, by rw [e1]; exact To, by rw [e1]; exact hno, .inl ⟨ha, fun dx h1 h2 => q dx h1 h2⟩⟩
    · cases h8
end PL

namespace PL
open L2 PyProof.Rows PySem.Spec PySem

def BindOk (st : Stmt) (ps : List Str) : Prop := ∀ (name qual : Str) (body : List Stmt) (scope : Scope) (kV doc pm : Value) (an : Option Addr) (cdv ct : Value) (us : List Value), us.length = ps.length →
  bindArgs (PySem.W.fnOf name qual (defArgs st) body scope .none kV doc pm an cdv ct) ⟨us, []⟩ = pure (ps.zip us)
def BindD (st : Stmt) (ps : List Str) (nd m : Nat) : Prop := ∀ (name qual : Str) (body : List Stmt) (scope : Scope) (T : Addr) (kV doc pm : Value) (an : Option Addr) (cdv ct : Value) (us its : List Value), us.length = m → its.length = nd →
  ∃ k, bindArgs (PySem.W.fnOf name qual (defArgs st) body scope (.ref T) kV doc pm an cdv ct) ⟨us, []⟩ = seqItems? (.ref T) >>= k ∧ k (some its.toArray) = pure (ps.zip (us ++ its.drop (m + nd - ps.length)))
def dvOf : D → He.Dv
  | .bl b => .bl b
  | .int i => .int i
  | .str x => .str x
  | _ => .non
theorem dvOf_v (K : PySem.W.Frag) (d : D) : He.Dv.v K (dvOf d) = vOf d := by cases d <;> rfl
def ddOf (d : DI) (st : Stmt) : He.DefD := ⟨(d.nm, none), d.nm, d.nm, defArgs st, defBody st, defScope st, d.dfl.map dvOf, []⟩
theorem ddOf_dvs (K : PySem.W.Frag) (d : DI) (st : Stmt) : (ddOf d st).dvs K = d.dfl.map vOf := by
  show (d.dfl.map dvOf).map (He.Dv.v K) = _
  rw [List.map_map]
  exact List.map_congr_left fun x _ => dvOf_v K x
def BindK (d : DI) (st : Stmt) : Prop := d.dfl.isEmpty = false ∧ ∀ (nm : Str), (d.ns.take d.ps).getLast? = some nm → ∀ (name qual : Str) (body : List Stmt) (scope : Scope) (T : Addr) (kV doc pm : Value) (an : Option Addr) (cdv ct : Value) (us its : List Value) (w : Value), us.length + 1 = d.ps → its.length = d.dfl.length →
  ∃ k, bindArgs (PySem.W.fnOf name qual (defArgs st) body scope (.ref T) kV doc pm an cdv ct) ⟨us, [(nm, w)]⟩ = seqItems? (.ref T) >>= k ∧ k (some its.toArray) = pure ((d.ns.take d.ps).zip (us ++ [w]))
def BindA (d : DI) (st : Stmt) : Prop := (d.kw = true → BindK d st) ∧ (d.dfl = [] → BindOk st (d.ns.take d.ps)) ∧ (d.dfl ≠ [] → ∀ m, m ≤ d.ps → d.ps ≤ m + d.dfl.length → BindD st (d.ns.take d.ps) d.dfl.length m)
theorem BindA.all {d : DI} {st : Stmt} (h : BindOk st (d.ns.take d.ps)) (e : d.dfl.isEmpty = true) (k : d.kw = false := by rfl) : BindA d st := ⟨(fun z => by rw [k] at z; cases z), fun _ => h, fun z => absurd (List.isEmpty_iff.mp e) z⟩
def faOf (c : Ck) : List He.Fa := (c.fs.map fun d => .glo d.nm) ++ ((c.free.map .free) ++ c.cst.filterMap fun p => match p.2 with | .int i => some (.int p.1 i) | _ => none)
def oexB (K : PySem.W.Frag) (C : Addr) : Bool := match K.lookup C with
  | some ⟨.type "type", _, .cls cd, sk⟩ => (match cd.mro, sk.toList with
    | .ref C' :: bm, [_, _, _, _, some (.builtin n), _] => C' == C && n == "ValueError.__new__" && !cd.hasDel && cd.hasDict && PySem.HandSPX.refsVE bm
    | _, _ => false)
  | _ => false
theorem oexB_ok {K : PySem.W.Frag} {C : Addr} (q : oexB K C = true) (h1 : PySem.W.findIn K (.ref C) "__setattr__" = some (some (.builtin "object.__setattr__"))) (h2 : PySem.W.subIn K (.ref C) (.type "BaseException") = some true)
    (h3 : PySem.W.typeIn K (.ref C) = some (.type "type")) (h4 : PySem.W.keepIn K (.ref C) = true) : OexC K C := by
  refine ⟨?_, h1, h2, h3, h4⟩
  unfold oexB at q
  split at q
  · rename_i dd cd sl ho
    split at q
    · (rename_i C' bm k0 k1 k2 k3 n k5 hm hs)
      (simp only [Bool.and_eq_true, beq_iff_eq, Bool.not_eq_true'] at q)
      obtain ⟨⟨⟨⟨rfl, rfl⟩, hdel⟩, hd⟩, hr⟩ := q
      (obtain ⟨nm, bs, mro, ns, qn, hd, sn, sub, ab, col, del⟩ := cd)
      dsimp only at hm hdel hd
      subst hm hdel hd
      have hsl : sl = #[k0, k1, k2, k3, some (.builtin "ValueError.__new__"), k5] := by
        obtain ⟨l⟩ := sl
        simp only at hs
        rw [hs]
      subst hsl
      exact ⟨nm, qn, ns, bs, bm, sn, sub, ab, col, dd, k0, k1, k2, k3, k5, ho, hr⟩
    · cases q
  · cases q
def dV (a b : Option Value) : Bool := decide (a = b)
def xfB (K : PySem.W.Frag) (C : Addr) : Option Str → Bool
  | none => PySem.W.excIn K C He.veBase "ValueError.__new__"
  | some g => He.eqO (PySem.W.findIn K (.ref C) g) (some none) && (decide (g ≠ "") && (oexB K C && (He.eqO (PySem.W.findIn K (.ref C) "__setattr__") (some (some (.builtin "object.__setattr__"))) && (He.eqO (PySem.W.findIn K (.ref C) "__init__") (some (some (.ref (He.ma K C "__init__")))) && dV (PySem.W.typeIn K (.ref (He.ma K C "__init__"))) (some (.type "function"))))))
def bT (a : Option Bool) : Bool := decide (a = some true)
def xcB (K : PySem.W.Frag) (x : Str) (f : Option Str) : Bool :=
  decide (x ≠ "ValueError") && ((He.Fa.glo x).ok K && (PySem.W.keepIn K (.ref (He.ga K x)) && (dV (PySem.W.typeIn K (.ref (He.ga K x))) (some (.type "type")) && (bT (PySem.W.subIn K (.ref (He.ga K x)) (.type "BaseException")) &&
    (He.eqO (PySem.W.findIn K (.ref (He.ga K x)) "__getattribute__") (some (some (.builtin "BaseException.__getattribute__"))) && (He.eqO (PySem.W.findIn K (.ref (He.ga K x)) "__getattr__") (some none) && (PySem.W.hasDictIn K (He.ga K x) &&
    (He.eqO (PySem.W.findIn K (.ref (He.ga K x)) "__class__") (some (some (.builtin "object.__class__"))) && (bT (PySem.W.mroIn K (He.ga K x) (.type "object")) && (bT (PySem.W.exmOne K (.ref (He.ga K x)) (.type "ValueError")) && (bT (PySem.W.kitOne K (.ref (He.ga K x)) (.type "ValueError")) && xfB K (He.ga K x) f)))))))))))
def xpB (K : PySem.W.Frag) (xs : List (Str × Option Str)) : Bool := xs.all fun p => xs.all fun q => decide (PySem.W.exmOne K (.ref (He.ga K p.1)) (.ref (He.ga K q.1)) = some (isSub p.1 q.1)) && decide (PySem.W.kitOne K (.ref (He.ga K p.1)) (.ref (He.ga K q.1)) = some (isSub p.1 q.1))
def cfB : Option PySem.W.CFound → Bool
  | some (.val (.builtin n)) => decide (n = "ValueError.__init__")
  | _ => false
theorem cfB_ok {r : Option PySem.W.CFound} (h : cfB r = true) : r = some (.val (.builtin "ValueError.__init__")) := by
  unfold cfB at h
  split at h
  · rw [of_decide_eq_true h]
  · cases h
def xgB (K : PySem.W.Frag) : Bool :=
  He.eqO (PySem.W.specialIn K (.builtin "object.__class__") "__get__") (some (some (.builtin "getset_descriptor.__get__"))) && (bT (PySem.W.takesIn K (.builtin "object.__class__")) && ((He.Fa.glo "InnError").ok K && (He.eqO (PySem.W.specialIn K (.ref (He.ga K "InnError")) "__getattribute__") (some (some (.builtin "type.__getattribute__"))) &&
    (PySem.W.readsIn K (He.ga K "InnError") (.type "type") && cfB (PySem.W.findCls K (.ref (He.ga K "InnError")) (.type "type") "__init__")))))
def exB (K : PySem.W.Frag) (xs : List (Str × Option Str)) : Bool := xs.isEmpty || (xs.all (fun p => xcB K p.1 p.2) && (xpB K xs && xgB K))
/-- a refusal's class with a field: its name, the field, its __init__ -/
abbrev In1 := Str × Str × Stmt
def iddOf (p : In1) : He.DefD := ⟨(p.1, some "__init__"), "__init__", p.1 ++ ".__init__", defArgs p.2.2, defBody p.2.2, defScope p.2.2, [], []⟩
def initOf : Stmt → Stmt
  | .ClassDef _ _ _ (b :: _) _ _ _ _ _ _ _ => b
  | s => s
def fnX (c : Ck) (sts : List Stmt) (is : List In1) : List He.DefD := List.zipWith ddOf c.fs sts ++ is.map iddOf
def SaysP (fa : List He.Fa) (fn : List He.DefD) (xs : List (Str × Option Str)) (K : PySem.W.Frag) : Prop := He.SaysD fa fn K ∧ exB K xs = true
def obsP (fa : List He.Fa) (fn : List He.DefD) (xs : List (Str × Option Str)) (K : PySem.W.Frag) : He.AlD × Bool := (He.obsD fa fn K, exB K xs)
def obsPG (n : Nat) (fa : List He.Fa) (fn : List He.DefD) (xs : List (Str × Option Str)) (g : Addr → Option Obj) : He.AlD × Bool := obsP fa fn xs (He.frG g (PySem.cStatics :: He.asD g n))
def hookP (n : Nat) (fa : List He.Fa) (fn : List He.DefD) (xs : List (Str × Option Str)) : PySem.W.Hook where
  α := He.AlD × Bool
  obs := fun s => obsPG n fa fn xs s.heap.get?
  val := fun _ => (He.valD fn, true)
  says := fun _ h => ∃ K : PySem.W.Frag, K.In h ∧ SaysP fa fn xs K
  of := fun _ _ e => ⟨_, He.frG_in, congrArg Prod.fst e, congrArg Prod.snd e⟩
  keeps := (fun _ _ _ ⟨K, hK, c⟩ k => ⟨K, PySem.W.Frag.In.keeps hK k, c⟩)
theorem obsPG_eq {n : Nat} {fa : List He.Fa} {fn : List He.DefD} {xs : List (Str × Option Str)} {g : Addr → Option Obj} {s : Shared} (h : ∀ a, g a = s.heap.get? a) : obsPG n fa fn xs g = (hookP n fa fn xs).obs s := by
  (have e : g = s.heap.get? := funext h)
  rw [e] <;> rfl
structure Txt (c : Ck) (sts : List Stmt) (is : List In1 := []) : Prop where
  len : sts.length = c.fs.length
  ok : ((c.fs.zip sts).all fun p => dB c p.1 p.2) = true
  bind : ∀ (j : Nat) (d : DI) (st : Stmt), c.fs[j]? = some d → sts[j]? = some st → BindA d st
  cst : (c.cst.all fun p => match p.2 with | .int _ => true | _ => false) = true
  hot : c.hot = false := by rfl
  cur : curE c.cst = none := by decide +kernel
  ini : ∀ x g, (x, some g) ∈ c.xc → ∃ st, (x, g, st) ∈ is ∧ iniS g st = true ∧ BindOk st ["self", g] := by intro x g h; cases h
/-- the law, its exceptions as the world has them -/
theorem walk_ofW {l : PySem.W.OpenLaw} {most k : Nat} {qq : Program} {lo : List Str} {XP : (Str → Option Value) → Heap → Prop} {YP : World → Heap → Prop} {dr : DefRec} {par : Str} (h1 : l.most = some most) (h2 : most ≤ sizeLine) (h3 : dr.params.defaults = []) (h4 : Room k callerA)
    (F : ∀ (wd : World) (mg : Str → Option Value) (ad : Addr) (hp : Heap), YP wd hp → hp.Ns mainGlobals mg → mg dr.name = some (.ref ad) → ∃ (K : PySem.W.Frag) (fd : FuncData) (sp : Sp), K.In hp ∧ (∀ (s : Shared) (u : Value), BindsTo s fd ⟨[u], []⟩ [(par, u)]) ∧
      (∀ (H : Hp) (a : Addr) (ns : List Int), ns.length ≤ most → Only H → SqL K H a (ns.map V.int) → sp [.ref a] H (fun v _ => v = .bl true) fun _ _ _ => False) ∧ ∀ base : Heap, K.In base → base.Ns mainGlobals mg → FnOk l.prog wd K mg base (L2N.CX l.prog wd) k ad fd [par] sp) :
    PySem.W.WalkO qq lo XP YP l.row.toRowW dr [] (fun f vs => PySem.call f vs) := by
  refine Att.attach_call h1 h3 fun wd s0 s1 mg mb ad o pm cd doc a vs ns G Y ho hd hcd hmg hobj hints hlen hg => ?_
  obtain ⟨K, fd, sp, KX, hb, hsp, hF⟩ := F wd mg ad _ Y G.T.g hmg
  refine law_call KX G.T.g G.T.b G.T.builtins G.T.nolimit hg hobj hints (Nat.le_trans hlen h2) h4 hF hb (fun H hO hS => hsp H a ns hlen hO hS) fun H e s' hx => ?_
  obtain ⟨_, _, _, _, _, _, _, _, _, _, _, _, z⟩ := hx
  exact z
section
variable {K : PySem.W.Frag} {h : Heap} {mg : Str → Option Value} {c : Ck} {sts : List Stmt} {is : List In1}
theorem fa_mem (cc : SaysP (faOf c) (fnX c sts is) c.xc K) {f : He.Fa} (hf : f ∈ faOf c) : f.ok K = true := by
  obtain ⟨i, hi⟩ := List.getElem?_of_mem hf
  exact cc.1.fact i (f := f) hi
theorem free_of (X : K.In h) (G : h.Ns mainGlobals mg) (cc : SaysP (faOf c) (fnX c sts is) c.xc K) : ∀ x, c.free.contains x = true → mg x = none := fun x hx =>
  He.free_ok X G (fa_mem cc (List.mem_append_right _ (List.mem_append_left _ (List.mem_map.mpr ⟨x, List.contains_iff_mem.mp hx, rfl⟩))))
theorem cst_of (T : Txt c sts is) (X : K.In h) (G : h.Ns mainGlobals mg) (cc : SaysP (faOf c) (fnX c sts is) c.xc K) : ∀ (j : Nat) (p : Str × D), c.cst[j]? = some p → ∃ u v, mg p.1 = some u ∧ RelV v u ∧ ∀ M H, Rep K M H p.2 v := fun j p hp => by
  have hm : p ∈ c.cst := List.mem_of_getElem? hp
  have q := List.all_eq_true.mp T.cst p hm
  obtain ⟨x, d⟩ := p
  cases d <;> first | exact Bool.noConfusion q | skip
  rename_i i
  obtain ⟨t, e⟩ := He.int_ok X G (fa_mem cc (f := .int x i) (List.mem_append_right _ (List.mem_append_right _ (List.mem_filterMap.mpr ⟨(x, .int i), hm, rfl⟩))))
  exact ⟨_, .int i, e, ⟨t, rfl⟩, fun _ _ => rfl⟩
theorem def_of (T : Txt c sts is) (X : K.In h) (G : h.Ns mainGlobals mg) (cc : SaysP (faOf c) (fnX c sts is) c.xc K) (j : Nat) (d : DI) (hj : c.fs[j]? = some d) :
    ∃ (st : Stmt) (fd : FuncData), sts[j]? = some st ∧ dB c d st = true ∧ BindA d st ∧ FunD K d.nm d.nm (defArgs st) (defBody st) (defScope st) (d.dfl.map vOf) [] (He.ga K d.nm) fd ∧ mg d.nm = some (.ref (He.ga K d.nm)) := by
  have hl : j < sts.length := by rw [T.len]; exact (List.getElem?_eq_some_iff.mp hj).1
  have hs : sts[j]? = some sts[j] := List.getElem?_eq_getElem hl
  have hz : (List.zipWith ddOf c.fs sts)[j]? = some (ddOf d sts[j]) := by rw [List.getElem?_zipWith, hj, hs]
  have hz : (fnX c sts is)[j]? = some (ddOf d sts[j]) := by
    unfold fnX
    rw [List.getElem?_append_left (List.getElem?_eq_some_iff.mp hz).1]; exact hz
  obtain ⟨fd, F⟩ := cc.1.def_ j hz
  have hz2 : (c.fs.zip sts)[j]? = some (d, sts[j]) := by rw [List.zip, List.getElem?_zipWith, hj, hs]
  exact ⟨_, fd, hs, List.all_eq_true.mp T.ok _ (List.mem_of_getElem? hz2), T.bind j d _ hj hs, by rw [← ddOf_dvs K d sts[j]]; exact F, He.glo_ok X G (fa_mem cc (List.mem_append_left _ (List.mem_map.mpr ⟨d, List.mem_of_getElem? hj, rfl⟩)))⟩
theorem defF_of (T : Txt c sts is) (X : K.In h) (G : h.Ns mainGlobals mg) (cc : SaysP (faOf c) (fnX c sts is) c.xc K) (j : Nat) (d : DI) (hj : c.fs[j]? = some d) : DefF K mg c d := by
  obtain ⟨st, fd, _, h1, h2, F, hm⟩ := def_of T X G cc j d hj
  have hps : (d.ns.take d.ps).length = d.ps := by
    have q := h1
    unfold dB at q
    (simp only [Bool.and_eq_true, decide_eq_true_eq] at q)
    rw [List.length_take]; omega
  refine ⟨st, _, fd, h1, F, hm, fun m h3 h4 => ?_, fun k nm hnm s us w hin hl => ?_, fun e s us hl => ?_⟩
  · by_cases e : d.dfl = []
    · rw [e] at h4 F ⊢
      rw [List.drop_nil]
      exact ⟨[], .nil, F.bindsN fun kV doc pm an cdv ct us hl => h2.2.1 e _ _ _ _ kV doc pm an cdv ct us hl⟩
    · have ne : d.dfl.map vOf ≠ [] := fun z => e (List.map_eq_nil_iff.mp z)
      obtain ⟨ds, r, b⟩ := F.binds1 m (m + d.dfl.length - d.ps) ne (by rw [List.length_map, hps]; omega) fun T kV doc pm an cdv ct us its l1 l2 => by
        have q := h2.2.2 e m h3 h4 d.nm d.nm (defBody st) (defScope st) T kV doc pm an cdv ct us its l1 (by rw [l2, List.length_map])
        rw [hps] at q
        exact q
      rw [← List.map_drop] at r
      exact ⟨ds, r, b⟩
  · obtain ⟨ne, hb⟩ := h2.1 k
    obtain ⟨oc, od, dV, kV, doc, pm, an, cdv, ct, osl, rfl, lk, _, hD, _⟩ := F.ex
    rcases hD with ⟨e, _⟩ | ⟨_, T, ob, its, nn, rfl, lT, oT, rT⟩
    · have e := List.map_eq_nil_iff.mp e
      rw [e] at ne; cases ne
    · obtain ⟨q, e1, e2⟩ := hb nm hnm d.nm d.nm (defBody st) (defScope st) T kV doc pm an cdv ct us its w hl (by rw [← rT.length, List.length_map])
      exact BindsTo.of_looks fun M => by
        rw [e1]
        exact looks_items hin lT oT (.of_pure e2)
  · rw [e] at F
    exact F.bindsA (fun kV doc pm an cdv ct us hl => h2.2.1 e _ _ _ _ kV doc pm an cdv ct us hl) s us hl
theorem xc_of (T : Txt c sts is) (X : K.In h) (G : h.Ns mainGlobals mg) (cc : SaysP (faOf c) (fnX c sts is) c.xc K) {P : Program} {w : World} (X' : Cx) (e1 : X'.prog = P) (e2 : X'.w = w) (e3 : X'.K = K) (e4 : X'.mg = mg) (x : Str) (f : Option Str) (hm : (x, f) ∈ c.xc) : XcO X' x f := by
  subst e3 e4
  have ne : c.xc.isEmpty = false := by cases e : c.xc with | nil => rw [e] at hm; cases hm | cons a b => rfl
  have q := cc.2
  unfold exB at q
  rw [ne, Bool.false_or] at q
  simp only [Bool.and_eq_true] at q
  obtain ⟨q1, q2, q3⟩ := q
  have q1 := List.all_eq_true.mp q1 _ hm
  unfold xcB at q1
  unfold xgB at q3
  simp only [Bool.and_eq_true, decide_eq_true_eq] at q1 q3
  obtain ⟨a1, a2, a3, a4, a5, a6, a7, a8, a9, a10, a11, a12, a13⟩ := q1
  obtain ⟨b1, b2, b3, b4, b5, b6⟩ := q3
  refine ⟨a1, He.glo_ok X G a2, a3, of_decide_eq_true a4, of_decide_eq_true a5, fun z => ?_, He.eqO_ok a6, He.eqO_ok a7, a8, He.eqO_ok a9, of_decide_eq_true a10, of_decide_eq_true a11, of_decide_eq_true a12, fun g z => ?_⟩
  · subst z; exact a13
  · subst z
    unfold xfB at a13
    simp only [Bool.and_eq_true, decide_eq_true_eq] at a13
    obtain ⟨c1, c2, c3, c4, c5, c6⟩ := a13
    have To := oexB_ok c3 (He.eqO_ok c4) (of_decide_eq_true a5) (of_decide_eq_true a4) a3
    obtain ⟨st, hs, h1, h2⟩ := T.ini x g hm
    obtain ⟨i, hi⟩ := List.getElem?_of_mem (List.mem_map.mpr ⟨_, hs, rfl⟩ : iddOf (x, g, st) ∈ is.map iddOf)
    have hz : (fnX c sts is)[(List.zipWith ddOf c.fs sts).length + i]? = some (iddOf (x, g, st)) := by
      unfold fnX
      rw [List.getElem?_append_right (Nat.le_add_right _ _), Nat.add_sub_cancel_left]; exact hi
    obtain ⟨fd, F⟩ := cc.1.def_ _ hz
    refine ⟨He.eqO_ok c1, c2, He.ma X'.K (He.ga X'.K x) "__init__", fd, [("self" : Str), g], To, He.eqO_ok c5, of_decide_eq_true c6, F.bindsN fun kV doc pm an cdv ct us hl => h2 _ _ _ _ kV doc pm an cdv ct us hl, ?_⟩
    exact ini_ok (x := x) h1 F (He.glo_ok X G b3) (He.eqO_ok b4) b5 (cfB_ok b6) To (He.eqO_ok c1)
theorem xp_of (cc : SaysP (faOf c) (fnX c sts is) c.xc K) : ∀ x f y g, (x, f) ∈ c.xc → (y, g) ∈ c.xc → PySem.W.exmOne K (.ref (He.ga K x)) (.ref (He.ga K y)) = some (isSub x y) ∧ PySem.W.kitOne K (.ref (He.ga K x)) (.ref (He.ga K y)) = some (isSub x y) := by
  intro x f y g h1 h2
  have ne : c.xc.isEmpty = false := by cases e : c.xc with | nil => rw [e] at h1; cases h1 | cons a b => rfl
  have q := cc.2
  unfold exB at q
  rw [ne, Bool.false_or] at q
  simp only [Bool.and_eq_true] at q
  have z := List.all_eq_true.mp (List.all_eq_true.mp q.2.1 _ h1) _ h2
  simp only [Bool.and_eq_true, decide_eq_true_eq] at z
  exact z
theorem xs_of (cc : SaysP (faOf c) (fnX c sts is) c.xc K) (hne : c.xc ≠ []) : PySem.W.specialIn K (.builtin "object.__class__") "__get__" = some (some (.builtin "getset_descriptor.__get__")) ∧ PySem.W.takesIn K (.builtin "object.__class__") = some true := by
  have ne : c.xc.isEmpty = false := by cases e : c.xc with | nil => exact absurd e hne | cons a b => rfl
  have q := cc.2
  unfold exB at q
  rw [ne, Bool.false_or] at q
  simp only [Bool.and_eq_true] at q
  have q3 := q.2.2
  unfold xgB at q3
  simp only [Bool.and_eq_true] at q3
  exact ⟨He.eqO_ok q3.1, of_decide_eq_true q3.2.1⟩
/-- all that the head asks of the walk -/
theorem walk_facts {P : Program} {w : World} {n : Nat} {x : Str} {jl : Nat} {dl : DI} {fa : Addr} (T : Txt c sts is) (hl : c.fs[jl]? = some dl) (he : dl.dfl = []) (hn : dl.nm = ("law" : Str)) (hp : dl.ns.take dl.ps = [x]) (hps : dl.ps = 1) (N : Nat)
    (plain : ∀ ns : List Int, ns.length ≤ n → GA c.cst c.fs N jl [.lst (ns.map .int)] = .ok (.bl true)) (X : K.In h) (G : h.Ns mainGlobals mg) (hfa : mg ("law" : Str) = some (.ref fa)) (cc : SaysP (faOf c) (fnX c sts is) c.xc K) :
    ∃ (K : PySem.W.Frag) (fd : FuncData) (sp : Sp), K.In h ∧ (∀ (sh : Shared) (va : Value), BindsTo sh fd ⟨[va], []⟩ [(x, va)]) ∧
        (∀ (H : Hp) (ad : Addr) (ns : List Int), ns.length ≤ n → Only H → SqL K H ad (ns.map V.int) → sp [.ref ad] H (fun v _ => v = .bl true) fun _ _ _ => False) ∧
        ∀ base : Heap, K.In base → base.Ns mainGlobals mg → FnOk P w K mg base (L2N.CX P w) (N + 2) fa fd [x] sp := by
  have hfd : ∃ fd, (∀ (s : Shared) (u : Value), BindsTo s fd ⟨[u], []⟩ [(x, u)]) ∧ ∀ base : Heap, FnOk P w K mg base (L2N.CX P w) (N + 2) fa fd [x] (spP c.xc K dl.ps dl.fr (GA c.cst c.fs N jl)) := by
    obtain ⟨f, fd, hm, _, hok, _, _, hb, _⟩ := ok_all (P := P) (w := w) c T.hot T.cur (free_of X G cc) (fun X' e1 e2 e3 e4 => xc_of T X G cc X' e1 e2 e3 e4) (xp_of cc) (xs_of cc) (cst_of T X G cc) (fun j d hj => defF_of T X G cc j d hj) N jl dl hl
    rw [hn] at hm
    have ef := hfa.symm.trans hm
    cases ef
    rw [hp] at hb hok
    exact ⟨fd, fun s u => hb he s [u] rfl, hok⟩
  obtain ⟨fd, hb, hok⟩ := hfd
  refine ⟨K, fd, spP c.xc K dl.ps dl.fr (GA c.cst c.fs N jl), X, hb, fun H a ns hle _ hS => ?_, fun base _ _ => hok base⟩
  refine ⟨[.lst (ns.map .int)], F0, by rw [hps]; rfl, ⟨_, _, rfl, ⟨a, _, rfl, LR.of_sq hS (fun z => z), Reps.of_ints⟩, rfl⟩, fun _ z => z.elim, ?_⟩
  rw [plain ns hle]
  intro v H' _ r
  revert r
  cases dl.fr <;> exact fun r => r
end
end PL

namespace PL
open L2 PyProof.Rows PySem.Spec PySem

def seqK (x : R Fl) (f : En → R Fl) : R Fl := x.bind fun
  | .nx r => f r
  | .rt d => .ok (.rt d)
  | .bk r => .ok (.bk r)
  | .ct r => .ok (.ct r)
def ifK (x : R D) (f g : En → R Fl) (r : En) : R Fl := x.bind fun d => (toB d).bind fun k => if k = true then f r else g r
def finK (x : R Fl) : R D := x.bind fun
  | .nx _ => .ok .non
  | .rt d => .ok d
  | _ => .no
def itK (x : R D) (f g : R D) : R D := x.bind fun d => (toB d).bind fun k => if k = true then f else g
def andK (x : R D) (f : R D) : R D := x.bind fun d => (toB d).bind fun k => if k = true then f else .ok (.bl false)
def orK (x : R D) (f : R D) : R D := x.bind fun d => (toB d).bind fun k => if k = true then .ok (.bl true) else f
theorem R.bind_ret {α : Type} (x : R α) : x.bind (fun a => R.ok a) = x := by cases x <;> rfl
theorem seq_kit (f : En → R Fl) : (∀ r, seqK (.ok (.nx r)) f = f r) ∧ (∀ d, seqK (.ok (.rt d)) f = .ok (.rt d)) ∧ (∀ r, seqK (.ok (.bk r)) f = .ok (.bk r)) ∧ (∀ r, seqK (.ok (.ct r)) f = .ok (.ct r)) := ⟨fun _ => rfl, fun _ => rfl, fun _ => rfl, fun _ => rfl⟩
theorem k_kit : (∀ k f g r, ifK (.ok (.bl k)) f g r = if k = true then f r else g r) ∧ (∀ r, finK (.ok (.nx r)) = .ok .non) ∧ (∀ d, finK (.ok (.rt d)) = .ok d) ∧ (∀ k f g, itK (.ok (.bl k)) f g = if k = true then f else g) ∧
  (∀ k f, andK (.ok (.bl k)) f = if k = true then f else .ok (.bl false)) ∧ (∀ k f, orK (.ok (.bl k)) f = if k = true then .ok (.bl true) else f) := ⟨fun _ _ _ _ => rfl, fun _ => rfl, fun _ => rfl, fun _ _ _ => rfl, fun _ _ => rfl, fun _ _ => rfl⟩
section
variable (T : List (Str × D)) (G : Ga)
theorem lrev_kit : (∀ a r, evE T G (.lrev a) r = (evE T G a r).bind lrevD) ∧ (∀ xs, lrevD (.lst xs) = .ok (.lst xs.reverse)) ∧ (∀ a b r, evE T G (.lrg a b) r = (evE T G a r).bind fun x => (evE T G b r).bind fun y => lrgD x y) ∧
  (∀ a b, cmpD .Is (.bl a) (.bl b) = .ok (decide (a = b))) ∧ (∀ a b, cmpD .IsNot (.bl a) (.bl b) = .ok (!decide (a = b))) := ⟨fun _ _ => rfl, fun _ => rfl, fun _ _ _ => rfl, fun _ _ => rfl, fun _ _ => rfl⟩
theorem sset_kit : (∀ a r, evE T G (.fls a) r = (evE T G a r).bind flsD) ∧ (∀ a r, evE T G (.sset a) r = (evE T G a r).bind ssetD) ∧ (∀ a b r, evE T G (.idx a b) r = (evE T G a r).bind fun x => (listD x).bind fun xs => (evE T G b r).bind fun y => idxD xs y) ∧
  (∀ y x i r, evS T G (.popSub y x i) r = (r.at x).bind fun l => (popD l).bind fun p => (evE T G i r).bind fun k => (subD p.1 k).bind fun u => .ok (.nx ((r.set x (some p.2)).set y (some u)))) := ⟨fun _ _ => rfl, fun _ _ => rfl, fun _ _ _ => rfl, fun _ _ _ _ => rfl⟩
theorem forq_kit : ∀ o t it b r, evS T G (.forq o t it b) r = (evI T G it r).bind fun ds => forD (evSs T G b) t ds r := fun _ _ _ _ _ => rfl
theorem callk_kit : (∀ j es e r, evE T G (.callk j es e) r = (evEs T G es r).bind fun xs => (evE T G e r).bind fun y => G j (xs ++ [y])) ∧
  (∀ x lo hi e r, evS T G (.setsl x lo hi e) r = (evE T G e r).bind fun v => (r.at x).bind fun l => (listD l).bind fun xs => (evE T G lo r).bind fun a => (intD a).bind fun i => (evE T G hi r).bind fun b => (intD b).bind fun j => (setslD xs i j v).bind fun l2 => .ok (.nx (r.set x (some l2)))) := ⟨fun _ _ _ _ => rfl, fun _ _ _ _ _ => rfl⟩
def condR (c : IE) : En → R Bool := fun r1 => (evE T G c r1).bind toB
theorem s_kit : (∀ s ss r, evSs T G (.cons s ss) r = seqK (evS T G s r) (evSs T G ss)) ∧ (∀ r, evSs T G .nil r = .ok (.nx r)) ∧
  (∀ i e r, evS T G (.asg (.nm i) e) r = (evE T G e r).bind fun x => .ok (.nx (r.set i (some x)))) ∧
  (∀ ts e r, evS T G (.asg (.tp ts) e) r = (evE T G e r).bind fun x => (asgT (.tp ts) x r).bind fun r1 => .ok (.nx r1)) ∧
  (∀ c a b r, evS T G (.ife c a b) r = ifK (evE T G c r) (evSs T G a) (evSs T G b) r) ∧ (∀ e r, evS T G (.ret e) r = (evE T G e r).bind fun x => .ok (.rt x)) ∧
  (∀ o t it b r, evS T G (.forr o t it b) r = (evI T G it r).bind fun ds => forD (evSs T G b) t ds r) ∧
  (∀ o c b r, evS T G (.whl o c b) r = whileR (condR T G c) (evSs T G b) r) ∧
  (∀ e r, evS T G (.expr e) r = (evE T G e r).bind fun _ => .ok (.nx r)) ∧ (∀ r, evS T G .brk r = .ok (.bk r)) ∧ (∀ r, evS T G .cont r = .ok (.ct r)) ∧ (∀ r, evS T G .pass r = .ok (.nx r)) :=
  ⟨fun _ _ _ => rfl, fun _ => rfl, fun _ _ _ => rfl, fun _ _ _ => rfl, fun _ _ _ _ => rfl, fun _ _ => rfl, fun _ _ _ _ _ => rfl, fun _ _ _ _ => rfl, fun _ _ => rfl, fun _ => rfl, fun _ => rfl, fun _ => rfl⟩
theorem s2_kit : (∀ i j a b r, evS T G (.par i j a b) r = (evE T G a r).bind fun x => (evE T G b r).bind fun y => .ok (.nx ((r.set i (some x)).set j (some y)))) ∧
  (∀ x i e r, evS T G (.sets x i e) r = (evE T G e r).bind fun v => (r.at x).bind fun l => (evE T G i r).bind fun k => (setD l k v).bind fun l2 => .ok (.nx (r.set x (some l2)))) ∧
  (∀ x e r, evS T G (.app x e) r = (r.at x).bind fun l => (listD l).bind fun xs => (evE T G e r).bind fun v => (appD (.lst xs) v).bind fun l2 => .ok (.nx (r.set x (some l2)))) ∧
  (∀ x i e r, evS T G (.ins x i e) r = (r.at x).bind fun l0 => (listD l0).bind fun xs => (evE T G i r).bind fun k => (evE T G e r).bind fun v => (insD (.lst xs) k v).bind fun l2 => .ok (.nx (r.set x (some l2)))) ∧
  (∀ x r, evS T G (.clr x) r = (r.at x).bind fun l => (clrD l).bind fun l2 => .ok (.nx (r.set x (some l2)))) ∧ (∀ x r, evS T G (.rev x) r = (r.at x).bind fun l => (revD l).bind fun l2 => .ok (.nx (r.set x (some l2)))) ∧
  (∀ x r, evS T G (.pop x) r = (r.at x).bind fun l => (popD l).bind fun p => .ok (.nx (r.set x (some p.2)))) ∧
  (∀ x i r, evS T G (.popAt x i) r = (r.at x).bind fun l => (listD l).bind fun xs => (evE T G i r).bind fun k => (popAtD (.lst xs) k).bind fun p => .ok (.nx (r.set x (some p.2)))) :=
  ⟨fun _ _ _ _ _ => rfl, fun _ _ _ _ => rfl, fun _ _ _ => rfl, fun _ _ _ _ => rfl, fun _ _ => rfl, fun _ _ => rfl, fun _ _ => rfl, fun _ _ _ => rfl⟩
theorem and_step (e : IE) (es : Es) (h : es ≠ .nil) (r : En) : evAnd T G (.cons e es) r = andK (evE T G e r) (evAnd T G es r) := by
  cases es with
  | nil => exact absurd rfl h
  | cons a b => rfl
theorem e_kit : (∀ i r, evE T G (.var i) r = En.at r i) ∧ (∀ d r, evE T G (.con d) r = .ok d) ∧ (∀ o a b r, evE T G (.bin o a b) r = (evE T G a r).bind fun x => (evE T G b r).bind fun y => binD o x y) ∧
  (∀ a b r, evE T G (.rep a b) r = (evE T G a r).bind fun x => (evE T G b r).bind fun y => repD x y) ∧ (∀ a r, evE T G (.neg a) r = (evE T G a r).bind negD) ∧
  (∀ o a b r, evE T G (.cmp o a b) r = (evE T G a r).bind fun x => (evE T G b r).bind fun y => blR (cmpD o x y)) ∧
  (∀ o p a b c r, evE T G (.cmp2 o p a b c) r = (evE T G a r).bind fun x => (evE T G b r).bind fun y => andK (blR (cmpD o x y)) ((evE T G c r).bind fun z => blR (cmpD p y z))) ∧
  (∀ a r, evE T G (.not a) r = (evE T G a r).bind fun x => (toB x).bind fun b => .ok (.bl (!b))) ∧ (∀ es r, evE T G (.and es) r = evAnd T G es r) ∧ (∀ es r, evE T G (.or es) r = evOr T G es r) ∧
  (∀ c a b r, evE T G (.ifx c a b) r = itK (evE T G c r) (evE T G a r) (evE T G b r)) ∧ (∀ es r, evE T G (.tup es) r = (evEs T G es r).bind fun xs => .ok (.tup xs)) ∧ (∀ es r, evE T G (.lst es) r = (evEs T G es r).bind fun xs => .ok (.lst xs)) ∧
  (∀ a i r, evE T G (.sub a i) r = (evE T G a r).bind fun x => (evE T G i r).bind fun y => subD x y) ∧ (∀ a lo hi r, evE T G (.slc a lo hi) r = (evE T G a r).bind fun x => (evO T G lo r).bind fun l => (evO T G hi r).bind fun h => slcD x l h) ∧
  (∀ f es r, evE T G (.bi f es) r = (evEs T G es r).bind fun xs => biD f xs) ∧ (∀ a t r, evE T G (.isi a t) r = (evE T G a r).bind fun x => blR (isiD x t)) ∧
  (∀ j es ds r, evE T G (.call j es ds false) r = (evEs T G es r).bind fun xs => G j (xs ++ ds)) ∧
  (∀ own e t it o r, evE T G (.comp own e t it o) r = (evI T G it r).bind fun ds => (compD (turnF T G own e t o r) ds).bind fun ys => if ds.length ≤ 1000000 then .ok (.lst ys) else .no) := by
  refine ⟨fun _ _ => rfl, fun _ _ => rfl, fun _ _ _ _ => rfl, fun _ _ _ => rfl, fun _ _ => rfl, fun _ _ _ _ => rfl, fun o p a b c r => ?_, fun _ _ => rfl, fun _ _ => rfl, fun _ _ => rfl, fun _ _ _ _ => rfl, fun _ _ => rfl, fun _ _ => rfl, fun _ _ _ => rfl, fun _ _ _ _ => rfl, fun _ _ _ => rfl, fun _ _ _ => rfl, fun j es ds r => ?_, fun _ _ _ _ _ _ => rfl⟩
  · show ((evE T G a r).bind fun x => (evE T G b r).bind fun y => (cmpD o x y).bind fun k => if k = true then (evE T G c r).bind fun z => blR (cmpD p y z) else .ok (.bl false)) = _
    congr; funext x; congr; funext y
    cases cmpD o x y <;> rfl
  · show ((evEs T G es r).bind fun xs => (G j (xs ++ ds)).bind fun d => if false && !flat d then .no else .ok d) = _
    congr; funext xs
    cases G j (xs ++ ds) <;> rfl
theorem es_kit : (∀ r, evEs T G .nil r = .ok []) ∧ (∀ e es r, evEs T G (.cons e es) r = (evE T G e r).bind fun x => (evEs T G es r).bind fun xs => .ok (x :: xs)) ∧
  (∀ e r, evAnd T G (.cons e .nil) r = andK (evE T G e r) (.ok (.bl true))) ∧ (∀ e e2 es r, evAnd T G (.cons e (.cons e2 es)) r = andK (evE T G e r) (evAnd T G (.cons e2 es) r)) ∧
  (∀ e r, evOr T G (.cons e .nil) r = orK (evE T G e r) (.ok (.bl false))) ∧ (∀ e e2 es r, evOr T G (.cons e (.cons e2 es)) r = orK (evE T G e r) (evOr T G (.cons e2 es) r)) ∧
  (∀ r, evO T G .none r = .ok none) ∧ (∀ e r, evO T G (.some e) r = (evE T G e r).bind fun x => (intD x).bind fun i => .ok (some i)) ∧ (∀ r, evC T G .none r = .ok true) ∧ (∀ e r, evC T G (.some e) r = (evE T G e r).bind fun x => toB x) ∧
  (∀ e r, evI T G (.ex e) r = (evE T G e r).bind itemsD) ∧ (∀ a r, evI T G (.rg1 a) r = (evE T G a r).bind fun x => (intD x).bind fun n => if rngOk 0 n then .ok ((rangeI 0 n.toNat).map .int) else .no) ∧
  (∀ a b r, evI T G (.rg2 a b) r = (evE T G a r).bind fun x => (evE T G b r).bind fun y => (intD x).bind fun i => (intD y).bind fun j => if rngOk i j then .ok ((rangeI i (j - i).toNat).map .int) else .no) := by
  refine ⟨fun _ => rfl, fun _ _ _ => rfl, fun e r => ?_, fun _ _ _ _ => rfl, fun e r => ?_, fun _ _ _ _ => rfl, fun _ => rfl, fun _ _ => rfl, fun _ => rfl, fun _ _ => rfl, fun _ _ => rfl, fun _ _ => rfl, fun _ _ _ => rfl⟩
  · show ((evE T G e r).bind fun x => (toB x).bind fun k => R.ok (D.bl k)) = _
    cases h : evE T G e r with
    | ok d => show ((toB d).bind fun k => R.ok (D.bl k)) = (toB d).bind fun k => if k = true then R.ok (D.bl true) else .ok (.bl false); cases toB d with | ok k => cases k <;> rfl | ex z => rfl | no => rfl
    | ex z => rfl
    | no => rfl
  · show ((evE T G e r).bind fun x => (toB x).bind fun k => R.ok (D.bl k)) = _
    cases h : evE T G e r with
    | ok d => show ((toB d).bind fun k => R.ok (D.bl k)) = (toB d).bind fun k => if k = true then R.ok (D.bl true) else .ok (.bl false); cases toB d with | ok k => cases k <;> rfl | ex z => rfl | no => rfl
    | ex z => rfl
    | no => rfl
theorem run_kit (d : DI) (ds : List D) (h : ds.length = d.ps) : runD T G d ds = finK (evSs T G d.body (startE d.ns.length ds)) := by
  unfold runD
  rw [if_pos h]; rfl
end
theorem o_kit : (∀ d l, En.at (some d :: l) 0 = .ok d) ∧ (∀ x l i, En.at (x :: l) (i + 1) = En.at l i) ∧ (∀ i j, binD .Add (.int i) (.int j) = .ok (.int (i + j))) ∧ (∀ i j, binD .Sub (.int i) (.int j) = .ok (.int (i - j))) ∧
  (∀ i j, binD .Mult (.int i) (.int j) = if mulB i j then .ok (.int (i * j)) else .no) ∧ (∀ i j, binD .FloorDiv (.int i) (.int j) = if divB j then .ok (.int (i / j)) else if divN j then .ok (.int (i.fdiv j)) else .no) ∧
  (∀ i j, binD .Mod (.int i) (.int j) = if 0 < j then .ok (.int (i % j)) else .no) ∧ (∀ i j, binD .Pow (.int i) (.int j) = if powB i j then .ok (.int (i ^ j.toNat)) else .no) ∧
  (∀ xs ys, binD .Add (.lst xs) (.lst ys) = if xs.length + ys.length ≤ sizeLine then .ok (.lst (xs ++ ys)) else .no) ∧ (∀ i, negD (.int i) = .ok (.int (-i))) ∧
  (∀ i j, cmpD .Lt (.int i) (.int j) = .ok (decide (i < j))) ∧ (∀ i j, cmpD .LtE (.int i) (.int j) = .ok (decide (i ≤ j))) ∧ (∀ i j, cmpD .Gt (.int i) (.int j) = .ok (decide (j < i))) ∧ (∀ i j, cmpD .GtE (.int i) (.int j) = .ok (decide (j ≤ i))) ∧
  (∀ i j, cmpD .Eq (.int i) (.int j) = .ok (decide (i = j))) ∧ (∀ i j, cmpD .NotEq (.int i) (.int j) = .ok (!decide (i = j))) ∧ (∀ a b, cmpD .Eq (.bl a) (.bl b) = .ok (a == b)) ∧ (∀ a b, cmpD .NotEq (.bl a) (.bl b) = .ok (!(a == b))) ∧
  (∀ d, cmpD .Is d .non = .ok (isNon d)) ∧ (∀ d, cmpD .IsNot d .non = .ok (!isNon d)) ∧ (∀ b, blR (.ok b) = .ok (.bl b)) ∧ (∀ b, toB (.bl b) = .ok b) ∧ (∀ i, intD (.int i) = .ok i) ∧
  (∀ xs, biD .len [.lst xs] = .ok (.int xs.length)) ∧ (∀ xs, biD .len [.tup xs] = .ok (.int xs.length)) ∧ (∀ i j, biD .max [.int i, .int j] = .ok (.int (if j > i then j else i))) ∧ (∀ i j, biD .min [.int i, .int j] = .ok (.int (if j < i then j else i))) ∧
  (∀ i, biD .abs [.int i] = .ok (.int (if i < 0 then -i else i))) ∧ (∀ xs, itemsD (.lst xs) = .ok xs) ∧ (∀ xs, itemsD (.tup xs) = .ok xs) ∧
  (∀ xs i, subD (.lst xs) (.int i) = (match atI xs i with | some d => .ok d | none => .no)) ∧ (∀ xs i, subD (.tup xs) (.int i) = (match atI xs i with | some d => .ok d | none => .no)) ∧ isNon .non = true ∧ (∀ xs, isNon (.tup xs) = false) ∧ (∀ xs, isNon (.lst xs) = false) ∧ (∀ i, isNon (.int i) = false) := by
  refine ⟨fun _ _ => rfl, fun _ _ _ => rfl, fun _ _ => rfl, fun _ _ => rfl, fun _ _ => rfl, fun _ _ => rfl, fun _ _ => rfl, fun _ _ => rfl, fun _ _ => rfl, fun _ => rfl, fun _ _ => rfl, fun _ _ => rfl, fun _ _ => rfl, fun _ _ => rfl, fun _ _ => rfl, fun _ _ => rfl, fun _ _ => rfl, fun _ _ => rfl, fun _ => ?_, fun _ => ?_, fun _ => rfl, fun _ => rfl, fun _ => rfl, fun _ => rfl, fun _ => rfl,
    fun _ _ => rfl, fun _ _ => rfl, fun _ => rfl, fun _ => rfl, fun _ => rfl, fun _ _ => rfl, fun _ _ => rfl, rfl, fun _ => rfl, fun _ => rfl, fun _ => rfl⟩
  · rename_i d; cases d <;> rfl
  · rename_i d; cases d <;> rfl
section
variable (T : List (Str × D)) (G : Ga)
theorem u_kit : (∀ r, evE T G (.u0 false) r = .ok (.dK [] [])) ∧ (∀ r, evE T G (.u0 true) r = .ok (.dT [] [])) ∧ (∀ k a r, evE T G (.u1 k a) r = (evE T G a r).bind fun x => u1D k x) ∧
  (∀ k a b r, evE T G (.u2 k a b) r = (evE T G a r).bind fun x => (evE T G b r).bind fun y => u2D k x y) ∧ (∀ a k d r, evE T G (.dget a k d) r = (evE T G a r).bind fun x => (dctD x).bind fun x => (evE T G k r).bind fun y => (evE T G d r).bind fun z => dgetD x y z) ∧
  (∀ i cs r, evE T G (.exIs i cs) r = (r.at i).bind fun d => exIsD T d cs) ∧ (∀ i f r, evE T G (.exAt i f) r = (r.at i).bind fun d => exAtD T d f) ∧
  (∀ y x k r, evS T G (.popk y x k) r = (r.at x).bind fun l => (dctD l).bind fun l => (evE T G k r).bind fun d => (popkD l d).bind fun p => .ok (.nx ((r.set x (some p.2)).set y (some p.1)))) ∧
  (∀ c f e r, evS T G (.rais c f e) r = (evE T G e r).bind fun v => raisD c f v) := ⟨fun _ => rfl, fun _ => rfl, fun _ _ _ => rfl, fun _ _ _ _ => rfl, fun _ _ _ _ => rfl, fun _ _ _ => rfl, fun _ _ _ => rfl, fun _ _ _ _ => rfl, fun _ _ _ _ => rfl⟩
variable {T G}
theorem try_ok {b h : Ss} {c : Str} {i : Option Nat} {r : En} {fl : Fl} (e : evSs T G b r = .ok fl) : evS T G (.tryx b c i h) r = .ok fl := by
  show (match evSs T G b r with
    | .ex x => if mtc c x = true then (match i with
      | some i => allA fun a b => noexF (goneF i) (evSs (T ++ [(("" : Str), exV a b x)]) G h (r.set i (some (exV a b x))))
      | none => noexF id (evSs T G h r)) else .ex x
    | y => y) = _
  rw [e]
theorem try_ex {b h : Ss} {c : Str} {i : Nat} {r : En} {x : D} {z : Fl} (e : evSs T G b r = .ex x) (m : mtc c x = true) (k : ∀ a b : Int, ∃ fl, evSs (T ++ [(("" : Str), exV a b x)]) G h (r.set i (some (exV a b x))) = .ok fl ∧ goneF i fl = z) : evS T G (.tryx b c (some i) h) r = .ok z := by
  show (match evSs T G b r with
    | .ex x => if mtc c x = true then allA fun a b => noexF (goneF i) (evSs (T ++ [(("" : Str), exV a b x)]) G h (r.set i (some (exV a b x)))) else .ex x
    | y => y) = _
  rw [e]
  show (if mtc c x = true then allA fun a b => noexF (goneF i) (evSs (T ++ [(("" : Str), exV a b x)]) G h (r.set i (some (exV a b x)))) else .ex x) = _
  rw [if_pos m]
  have q : ∀ a b : Int, noexF (goneF i) (evSs (T ++ [(("" : Str), exV a b x)]) G h (r.set i (some (exV a b x)))) = .ok z := fun a b => by
    obtain ⟨fl, e1, e2⟩ := k a b
    rw [e1, ← e2]; rfl
  unfold allA
  rw [if_pos fun a b => (q a b).trans (q 0 0).symm]
  exact q 0 0
theorem lookup_app {T : List (Str × D)} {d : D} (h : T.lookup ("" : Str) = none) : (T ++ [(("" : Str), d)]).lookup ("" : Str) = some d := by
  induction T with
  | nil => rfl
  | cons p T ih =>
    obtain ⟨x, v⟩ := p
    have h : (match ("" : Str) == x with | true => some v | false => T.lookup ("" : Str)) = none := h
    show (match ("" : Str) == x with | true => some v | false => (T ++ [(("" : Str), d)]).lookup ("" : Str)) = _
    cases e : (("" : Str) == x) with
    | true => rw [e] at h; cases h
    | false => rw [e] at h; exact ih h
/-- inside a handler: the refusal has a field -/
theorem exIs_f (hT : T.lookup ("" : Str) = none) {a b : Int} {c g : Str} {v : D} {cs : List Str} : exIsD (T ++ [(("" : Str), exV a b (.ex c [.str g, v]))]) (exV a b (.ex c [.str g, v])) cs = .ok (.bl (cs.any fun y => isSub c y)) := by
  unfold exIsD curE
  rw [lookup_app hT]
  show (if a = a ∧ b = b then _ else _) = _
  rw [if_pos ⟨rfl, rfl⟩]
theorem exAt_f (hT : T.lookup ("" : Str) = none) {a b : Int} {c g : Str} {v : D} : exAtD (T ++ [(("" : Str), exV a b (.ex c [.str g, v]))]) (exV a b (.ex c [.str g, v])) g = .ok v := by
  unfold exAtD curE
  rw [lookup_app hT]
  show (if a = a ∧ b = b ∧ g = g ∧ g = g then _ else _) = _
  rw [if_pos ⟨rfl, rfl, rfl, rfl⟩]
theorem exIs_n (hT : T.lookup ("" : Str) = none) {a b : Int} {c : Str} {cs : List Str} : exIsD (T ++ [(("" : Str), exV a b (.ex c []))]) (exV a b (.ex c [])) cs = .ok (.bl (cs.any fun y => isSub c y)) := by
  unfold exIsD curE
  rw [lookup_app hT]
  show (if a = a then _ else _) = _
  rw [if_pos rfl]
end
end PL

namespace PL
open L2 PyProof.Rows PySem.Spec PySem

theorem atI_map {ns : List Int} {i : Int} (h0 : 0 ≤ i) (h1 : i < ns.length) : atI (ns.map D.int) i = some (.int (ns.getD i.toNat 0)) := by
  (obtain ⟨n, rfl⟩ := Int.eq_ofNat_of_zero_le h0)
  have h1 : n < ns.length := by omega
  simp [atI, ixN, h1, List.getElem?_eq_getElem h1]
def dCell : DI where
  nm := "_law_cell"
  ns := ["_law_script", "_law_at"]
  ps := 2
  dfl := []
  fr := true
  body :=
    (.cons (.ife (.cmp .Lt (.var 1) (.bi .len (.cons (.var 0) .nil)))
      (.cons (.ret (.bin .Mod (.sub (.var 0) (.var 1)) (.con (.int 1000000007))))
      .nil)
      .nil)
    (.cons (.ife (.cmp .Eq (.var 0) (.lst .nil))
      (.cons (.ret (.bin .Add (.bin .Mult (.con (.int 7919)) (.var 1)) (.con (.int 5000011))))
      .nil)
      .nil)
    (.cons (.ret (.bin .Add (.bin .Mod (.sub (.var 0) (.bin .Mod (.bin .Mult (.var 1) (.con (.int 7))) (.bi .len (.cons (.var 0) .nil)))) (.con (.int 1000000007))) (.bin .Mult (.con (.int 7919)) (.var 1))))
    .nil)))
theorem mulB_l {i j : Int} (h : i.natAbs < 2 ^ 64) : mulB i j = true := by
  unfold mulB
  rw [decide_eq_true h]; rfl
theorem mulB_r {i j : Int} (h : j.natAbs < 2 ^ 64) : mulB i j = true := by
  unfold mulB
  rw [decide_eq_true h]; simp
theorem plain_ints {n : Nat} {ns : List Int} : (ns.map D.int).all (plainD (n + 1)) = true := by
  rw [List.all_eq_true]
  intro d hd
  obtain ⟨i, _, rfl⟩ := List.mem_map.mp hd
  rfl
theorem cell_ok {T : List (Str × D)} {G : Ga} {ns : List Int} {i : Int} (h0 : 0 ≤ i) (h1 : i < 2 ^ 40) : ∃ v, 0 ≤ v ∧ v < 2 ^ 60 ∧ runD T G dCell [.lst (ns.map .int), .int i] = .ok (.int v) := by
  by_cases h : i < ns.length
  · refine ⟨ns.getD i.toNat 0 % 1000000007, Int.emod_nonneg _ (by decide), by omega, ?_⟩
    simp [runD, dCell, startE, evSs, evS, evE, evEs, En.at, biD, cmpD, blR, toB, h, subD, atI_map h0 h, binD]
  · by_cases e : ns = []
    · subst e
      refine ⟨7919 * i + 5000011, by omega, by omega, ?_⟩
      have hi : ¬ i < 0 := by omega
      have m2 : mulB 7919 i = true := mulB_l (by decide)
      simp [runD, dCell, startE, evSs, evS, evE, evEs, En.at, biD, cmpD, blR, toB, binD, m2, deq, deqs, plainD, sclD, flatD, hi]
    · have hl : 0 < ns.length := List.length_pos_iff.mpr e
      have a0 : 0 ≤ i * 7 % (ns.length : Int) := Int.emod_nonneg _ (by omega)
      have a1 : i * 7 % (ns.length : Int) < ns.length := Int.emod_lt_of_pos _ (by omega)
      refine ⟨ns.getD (i * 7 % (ns.length : Int)).toNat 0 % 1000000007 + 7919 * i, by omega, by omega, ?_⟩
      have m1 : mulB i 7 = true := mulB_r (by decide)
      have m2 : mulB 7919 i = true := mulB_l (by decide)
      have hn : deq (D.lst (ns.map .int)) (.lst []) = false := by
        cases ns with
        | nil => exact absurd rfl e
        | cons a l => rfl
      have hp : plainD 60 (D.lst (ns.map .int)) = true := plain_ints (n := 58)
      have hs : sclD (D.lst (ns.map .int)) (.lst []) = false := rfl
      have hq : plainD 60 (D.lst []) = true := rfl
      simp [runD, dCell, startE, evSs, evS, evE, evEs, En.at, biD, cmpD, blR, toB, binD, h, m1, m2, hn, hp, hs, hq, hl, subD, atI_map a0 a1]
def dPart (jc : Nat) : DI where
  nm := "_law_part"
  ns := ["_law_script", "_law_at", "_law_k", "_law_many", "_law_number", "_law_j"]
  ps := 4
  dfl := []
  fr := true
  body :=
    (.cons (.ife (.and (.cons (.cmp .Lt (.var 1) (.bi .len (.cons (.var 0) .nil))) (.cons (.cmp .GtE (.sub (.var 0) (.var 1)) (.bin .Pow (.con (.int 10)) (.con (.int 40)))) .nil)))
      (.cons (.asg (.nm 4) (.sub (.var 0) (.var 1)))
      (.cons (.forr [] (.nm 5) (.rg1 (.var 2))
        (.cons (.asg (.nm 4) (.bin .FloorDiv (.var 4) (.con (.int 1000003))))
        .nil))
      (.cons (.ife (.cmp .Gt (.var 4) (.con (.int 0)))
        (.cons (.ret (.bin .Mod (.bin .Mod (.var 4) (.con (.int 1000003))) (.var 3)))
        .nil)
        .nil)
      .nil)))
      .nil)
    (.cons (.asg (.nm 4) (.bin .Mod (.bin .Mult (.bin .Add (.bin .Add (.call jc (.cons (.var 0) (.cons (.var 1) .nil)) [] false) (.bin .Mult (.con (.int 65537)) (.var 1))) (.con (.int 3))) (.bin .Add (.con (.int 1299709)) (.bin .Mult (.con (.int 15485863)) (.var 2)))) (.con (.int 2147483629))))
    (.cons (.asg (.nm 4) (.bin .Add (.bin .Mod (.bin .Mult (.var 4) (.var 4)) (.con (.int 1500450271))) (.con (.int 104729))))
    (.cons (.ret (.bin .Mod (.bin .FloorDiv (.bin .Mod (.bin .Mult (.var 4) (.var 4)) (.con (.int 715827883))) (.con (.int 64))) (.var 3)))
    .nil))))
theorem part_loop {T : List (Str × D)} {G : Ga} {a b c m : D} : ∀ (ds : List D) (v : Int) (x : Option D), 0 ≤ v → ∃ v' x', 0 ≤ v' ∧ forD (fun r1 => evSs T G (.cons (.asg (.nm 4) (.bin .FloorDiv (.var 4) (.con (.int 1000003)))) .nil) r1) (.nm 5) ds [some a, some b, some c, some m, some (.int v), x] =
    .ok (.nx [some a, some b, some c, some m, some (.int v'), x'])
  | [], v, x, h => ⟨v, x, h, rfl⟩
  | d :: ds, v, x, h => by
    obtain ⟨v', x', h1, h2⟩ := part_loop (T := T) (G := G) (a := a) (b := b) (c := c) (m := m) ds (v / 1000003) (some d) (Int.ediv_nonneg h (by decide))
    refine ⟨v', x', h1, ?_⟩
    rw [← h2]
    simp [forD, asgT, evSs, evS, evE, En.at, binD, divB]
theorem part_ok {T : List (Str × D)} {G : Ga} {jc : Nat} {ns : List Int} {i k m : Int} (hG : ∃ v, 0 ≤ v ∧ v < 2 ^ 60 ∧ G jc [.lst (ns.map .int), .int i] = .ok (.int v)) (h0 : 0 ≤ i) (h1 : i < 2 ^ 40) (hk : 0 ≤ k) (hk1 : k < 2 ^ 30) (hm : 0 < m) :
    ∃ v, 0 ≤ v ∧ v < m ∧ runD T G (dPart jc) [.lst (ns.map .int), .int i, .int k, .int m] = .ok (.int v) := by
  obtain ⟨c, c0, c1, hc⟩ := hG
  have hp : powB 10 40 = true := by decide
  have rg : rngOk 0 k = true := by unfold rngOk; simp; omega
  have m1 : mulB 65537 i = true := mulB_l (by decide)
  have m2 : mulB 15485863 k = true := mulB_l (by decide)
  have m3 : mulB (c + 65537 * i + 3) (1299709 + 15485863 * k) = true := mulB_r (by omega)
  generalize e1 : (c + 65537 * i + 3) * (1299709 + 15485863 * k) % 2147483629 = n1
  have n1a : 0 ≤ n1 := by rw [← e1]; exact Int.emod_nonneg _ (by decide)
  have n1b : n1 < 2147483629 := by rw [← e1]; exact Int.emod_lt_of_pos _ (by decide)
  have m4 : mulB n1 n1 = true := mulB_l (by omega)
  generalize e2 : n1 * n1 % 1500450271 + 104729 = n2
  have n2a : 0 ≤ n2 := by
    have : 0 ≤ n1 * n1 % 1500450271 := Int.emod_nonneg _ (by decide)
    omega
  have n2b : n2 < 2147483629 := by
    have : n1 * n1 % 1500450271 < 1500450271 := Int.emod_lt_of_pos _ (by decide)
    omega
  have m5 : mulB n2 n2 = true := mulB_l (by omega)
  have d1 : divB 64 = true := by decide
  have q1 : (0 : Int) < 2147483629 := by decide
  have q2 : (0 : Int) < 1500450271 := by decide
  have q3 : (0 : Int) < 715827883 := by decide
  have q4 : (0 : Int) < 1000003 := by decide
  have main : ∃ v, 0 ≤ v ∧ v < m ∧ ∀ x y : Option D, finK (evSs T G (.cons (.asg (.nm 4) (.bin .Mod (.bin .Mult (.bin .Add (.bin .Add (.call jc (.cons (.var 0) (.cons (.var 1) .nil)) [] false) (.bin .Mult (.con (.int 65537)) (.var 1))) (.con (.int 3))) (.bin .Add (.con (.int 1299709)) (.bin .Mult (.con (.int 15485863)) (.var 2)))) (.con (.int 2147483629))))
    (.cons (.asg (.nm 4) (.bin .Add (.bin .Mod (.bin .Mult (.var 4) (.var 4)) (.con (.int 1500450271))) (.con (.int 104729))))
    (.cons (.ret (.bin .Mod (.bin .FloorDiv (.bin .Mod (.bin .Mult (.var 4) (.var 4)) (.con (.int 715827883))) (.con (.int 64))) (.var 3)))
    .nil))) [some (.lst (ns.map .int)), some (.int i), some (.int k), some (.int m), x, y]) = .ok (.int v) := by
    refine ⟨n2 * n2 % 715827883 / 64 % m, Int.emod_nonneg _ (by omega), Int.emod_lt_of_pos _ hm, fun x y => ?_⟩
    simp only [s_kit, e_kit, es_kit, o_kit, R.bind_ok, seq_kit, k_kit, hc, m1, m2, m3, if_true, q1, e1, List.set, List.append_nil, m4, q2, e2, m5, q3, d1, hm]
  obtain ⟨v, v0, v1, hv⟩ := main
  have len4 : ([D.lst (ns.map .int), .int i, .int k, .int m] : List D).length = (dPart jc).ps := rfl
  have st : startE (dPart jc).ns.length [D.lst (ns.map .int), .int i, .int k, .int m] = [some (.lst (ns.map .int)), some (.int i), some (.int k), some (.int m), none, none] := rfl
  by_cases h : i < ns.length
  · by_cases hb : 10 ^ 40 ≤ ns.getD i.toNat 0
    · obtain ⟨v', x', w0, hl⟩ := part_loop (T := T) (G := G) (a := .lst (ns.map .int)) (b := .int i) (c := .int k) (m := .int m) ((rangeI 0 k.toNat).map .int) (ns.getD i.toNat 0) none (by omega)
      by_cases hz : 0 < v'
      · refine ⟨v' % 1000003 % m, Int.emod_nonneg _ (by omega), Int.emod_lt_of_pos _ hm, ?_⟩
        rw [run_kit _ _ _ _ len4, st]
        unfold dPart
        simp only [s_kit, e_kit, es_kit, o_kit, R.bind_ok, seq_kit, k_kit, List.length_map, h, decide_true, if_true, atI_map h0 h, hp, hb, List.set, rg, hl, hz, q4, hm, show ((10 : Int) ^ (40 : Int).toNat) = 10 ^ 40 from rfl]
      · refine ⟨v, v0, v1, ?_⟩
        rw [run_kit _ _ _ _ len4, st, ← hv (some (.int v')) x']
        unfold dPart
        rw [(s_kit T G).1]
        congr 1
        simp only [(s_kit T G).2.2.2.2.1]
        simp only [s_kit, e_kit, es_kit, o_kit, R.bind_ok, seq_kit, k_kit, List.length_map, h, decide_true, if_true, atI_map h0 h, hp, hb, List.set, rg, hl, hz, decide_false, Bool.false_eq_true, if_false, q4, hm, show ((10 : Int) ^ (40 : Int).toNat) = 10 ^ 40 from rfl]
    · refine ⟨v, v0, v1, ?_⟩
      rw [run_kit _ _ _ _ len4, st, ← hv none none]
      unfold dPart
      rw [(s_kit T G).1]
      simp only [(s_kit T G).2.2.2.2.1]
      simp only [e_kit, es_kit, o_kit, R.bind_ok, k_kit, List.length_map, h, decide_true, if_true, atI_map h0 h, hp, hb, decide_false, Bool.false_eq_true, if_false, show ((10 : Int) ^ (40 : Int).toNat) = 10 ^ 40 from rfl]
      rw [(s_kit T G).2.1, (seq_kit _).1]
  · refine ⟨v, v0, v1, ?_⟩
    rw [run_kit _ _ _ _ len4, st, ← hv none none]
    unfold dPart
    rw [(s_kit T G).1]
    simp only [(s_kit T G).2.2.2.2.1]
    simp only [e_kit, es_kit, o_kit, R.bind_ok, k_kit, List.length_map, h, decide_false, Bool.false_eq_true, if_false]
    rw [(s_kit T G).2.1, (seq_kit _).1]
def dFar (jp : Nat) : DI where
  nm := "_law_far"
  ns := ["_law_script", "_law_at"]
  ps := 2
  dfl := []
  fr := true
  body :=
    (.cons (.ife (.cmp .Lt (.var 1) (.bi .len (.cons (.var 0) .nil)))
      (.cons (.ret (.bin .Mod (.sub (.var 0) (.var 1)) (.bin .Pow (.con (.int 10)) (.con (.int 60)))))
      .nil)
      .nil)
    (.cons (.ret (.bin .Add (.bin .Mult (.call jp (.cons (.var 0) (.cons (.var 1) (.cons (.con (.int 59)) (.cons (.bin .Pow (.con (.int 10)) (.con (.int 6))) .nil)))) [] false) (.bin .Pow (.con (.int 10)) (.con (.int 40)))) (.call jp (.cons (.var 0) (.cons (.var 1) (.cons (.con (.int 60)) (.cons (.bin .Pow (.con (.int 10)) (.con (.int 6))) .nil)))) [] false)))
    .nil))
theorem far_ok {T : List (Str × D)} {G : Ga} {jp : Nat} {ns : List Int} {i : Int} (hG : ∀ k m : Int, 0 ≤ k → k < 2 ^ 30 → 0 < m → ∃ v, 0 ≤ v ∧ v < m ∧ G jp [.lst (ns.map .int), .int i, .int k, .int m] = .ok (.int v)) (h0 : 0 ≤ i) :
    ∃ v, 0 ≤ v ∧ v < 10 ^ 60 ∧ runD T G (dFar jp) [.lst (ns.map .int), .int i] = .ok (.int v) := by
  have p1 : powB 10 60 = true := by decide
  have p2 : powB 10 40 = true := by decide
  have p3 : powB 10 6 = true := by decide
  have len2 : ([D.lst (ns.map .int), .int i] : List D).length = (dFar jp).ps := rfl
  have st : startE (dFar jp).ns.length [D.lst (ns.map .int), .int i] = [some (.lst (ns.map .int)), some (.int i)] := rfl
  by_cases h : i < ns.length
  · refine ⟨ns.getD i.toNat 0 % 10 ^ 60, Int.emod_nonneg _ (by decide), Int.emod_lt_of_pos _ (by decide), ?_⟩
    rw [run_kit _ _ _ _ len2, st]
    unfold dFar
    simp only [s_kit, e_kit, es_kit, o_kit, R.bind_ok, seq_kit, k_kit, List.length_map, h, decide_true, if_true, atI_map h0 h, p1, show ((10 : Int) ^ (60 : Int).toNat) = 10 ^ 60 from rfl, show (0 : Int) < 10 ^ 60 from by decide]
  · obtain ⟨a, a0, a1, ha⟩ := hG 59 (10 ^ 6) (by decide) (by decide) (by decide)
    obtain ⟨b, b0, b1, hb⟩ := hG 60 (10 ^ 6) (by decide) (by decide) (by decide)
    have m1 : mulB a (10 ^ 40) = true := mulB_l (by omega)
    refine ⟨a * 10 ^ 40 + b, by omega, by omega, ?_⟩
    rw [run_kit _ _ _ _ len2, st]
    unfold dFar
    simp only [s_kit, e_kit, es_kit, o_kit, R.bind_ok, seq_kit, k_kit, List.length_map, h, decide_false, Bool.false_eq_true, if_false, if_true, p2, p3, show ((10 : Int) ^ (40 : Int).toNat) = 10 ^ 40 from rfl, show ((10 : Int) ^ (6 : Int).toNat) = 10 ^ 6 from rfl, List.append_nil, ha, hb, m1]
end PL

namespace PL
open L2 PyProof.Rows PySem.Spec PySem

theorem comp_filter {f : D → R (Option D)} {p : Int → Bool} {g : Int → D} : ∀ {xs : List Int}, (∀ x ∈ xs, f (.int x) = .ok (if p x = true then some (g x) else none)) → compD f (xs.map .int) = .ok ((xs.filter p).map g)
  | [], _ => rfl
  | x :: xs, h => by
    have ih := comp_filter (xs := xs) fun y hy => h y (List.mem_cons_of_mem _ hy)
    show ((exno (f (.int x))).bind fun o => (compD f (xs.map .int)).bind fun r => R.ok (optC o r)) = _
    rw [h x (List.mem_cons_self ..), ih]
    cases hp : p x with
    | true => rw [List.filter_cons_of_pos hp]; rfl
    | false => rw [List.filter_cons_of_neg (by rw [hp]; exact Bool.false_ne_true)]; rfl
theorem rangeI_succ (a : Int) (n : Nat) : rangeI a (n + 1) = rangeI a n ++ [a + n] := by
  unfold rangeI
  rw [List.range_succ, List.map_append]; rfl
theorem rangeI_len (a : Int) (n : Nat) : (rangeI a n).length = n := by unfold rangeI; simp
theorem filter_range (a : Int) (c d : Int) : ∀ n : Nat, (rangeI a n).filter (fun x => decide (c ≤ x) && decide (x < d)) = rangeI (max a c) (min (a + n) d - max a c).toNat
  | 0 => by
    have : (min (a + (0 : Nat)) d - max a c).toNat = 0 := by omega
    rw [this]; rfl
  | n + 1 => by
    rw [rangeI_succ, List.filter_append, filter_range a c d n]
    by_cases h : c ≤ a + n ∧ a + n < d
    · have e : (min (a + ((n + 1 : Nat) : Int)) d - max a c).toNat = (min (a + n) d - max a c).toNat + 1 := by omega
      have e2 : max a c + ((min (a + n) d - max a c).toNat : Nat) = a + n := by omega
      rw [e, rangeI_succ, e2]
      congr 1
      rw [List.filter_cons_of_pos (by simp [h.1, h.2])]; rfl
    · have e : (min (a + ((n + 1 : Nat) : Int)) d - max a c).toNat = (min (a + n) d - max a c).toNat := by omega
      rw [e, List.filter_cons_of_neg (by simp; omega), List.filter_nil, List.append_nil]
theorem at_first (a : Int) (n : Nat) : atI ((rangeI a (n + 1)).map D.int) 0 = some (.int a) := by
  rw [atI_map (by decide) (by rw [rangeI_len]; omega)]
  unfold rangeI
  simp
theorem at_last (a : Int) (n : Nat) : atI ((rangeI a (n + 1)).map D.int) (-1) = some (.int (a + n)) := by
  have hl : ((rangeI a (n + 1)).map D.int).length = n + 1 := by rw [List.length_map, rangeI_len]
  have hx : ixN (n + 1) (-1) = some n := by
    unfold ixN
    rw [if_neg (by decide), if_pos (by omega)]
    congr 1
    omega
  unfold atI
  rw [hl, hx]
  show ((rangeI a (n + 1)).map D.int)[n]? = _
  rw [rangeI_succ, List.map_append, List.getElem?_append_right (by rw [List.length_map, rangeI_len]; omega), List.length_map, rangeI_len]
  simp
theorem eq_nil (ns : List Int) : cmpD .Eq (.lst (ns.map .int)) (.lst []) = .ok (decide (ns = [])) := by
  have hp : plainD 60 (D.lst (ns.map .int)) = true := plain_ints (n := 58)
  have hs : sclD (D.lst (ns.map .int)) (.lst []) = false := rfl
  have hq : plainD 60 (D.lst []) = true := rfl
  show (if sclD _ _ || (plainD 60 _ && plainD 60 _) then R.ok (deq _ _) else eqR _ _) = _
  rw [hp, hs, hq]
  cases ns <;> rfl
/-- a loop that goes on to its end -/
theorem for_inv {f : En → R Fl} {t : IT} (Iv : En → Prop) : ∀ {ds : List D} {r : En}, Iv r → (∀ d ∈ ds, ∀ r, Iv r → ∃ r1 r2, asgT t d r = .ok r1 ∧ f r1 = .ok (.nx r2) ∧ Iv r2) → ∃ r2, forD f t ds r = .ok (.nx r2) ∧ Iv r2
  | [], r, h, _ => ⟨r, rfl, h⟩
  | d :: ds, r, h, k => by
    obtain ⟨r1, r2, e1, e2, h2⟩ := k d (List.mem_cons_self ..) r h
    obtain ⟨r3, e3, h3⟩ := for_inv Iv (ds := ds) h2 fun d hd => k d (List.mem_cons_of_mem _ hd)
    refine ⟨r3, ?_, h3⟩
    show ((asgT t d r).bind fun r1 => (f r1).bind fun
      | .nx r2 => forD f t ds r2
      | .ct r2 => forD f t ds r2
      | .bk r2 => .ok (.nx r2)
      | .rt x => .ok (.rt x)) = _
    rw [e1]
    show ((f r1).bind fun
      | .nx r2 => forD f t ds r2
      | .ct r2 => forD f t ds r2
      | .bk r2 => .ok (.nx r2)
      | .rt x => .ok (.rt x)) = _
    rw [e2]
    exact e3
end PL

namespace PL
open L2 PyProof.Rows PySem.Spec PySem

/-- one turn of a while, told -/
theorem while_on {c : En → R Bool} {f : En → R Fl} {r r2 : En} (h1 : c r = .ok true) (h2 : f r = .ok (.nx r2)) : whileR c f r = whileR c f r2 := by
  rw [whileR_step, h1, R.bind_ok, if_pos rfl, h2]; rfl
theorem while_end {c : En → R Bool} {f : En → R Fl} {r : En} (h1 : c r = .ok false) : whileR c f r = .ok (.nx r) := by
  rw [whileR_step, h1, R.bind_ok, if_neg Bool.false_ne_true]
def dDivisor : DI where
  nm := "divisor"
  ns := ["one", "other", "rest"]
  ps := 2
  dfl := []
  fr := false
  body :=
    (.cons (.asg (.nm 0) (.bi .abs (.cons (.var 0) .nil)))
    (.cons (.asg (.nm 1) (.bi .abs (.cons (.var 1) .nil)))
    (.cons (.whl [] (.cmp .Gt (.var 1) (.con (.int 0)))
      (.cons (.asg (.nm 2) (.bin .Mod (.var 0) (.var 1)))
      (.cons (.asg (.nm 0) (.var 1))
      (.cons (.asg (.nm 1) (.var 2))
      .nil))))
    (.cons (.ret (.var 0))
    .nil))))
theorem gcd_turn {a b : Int} (h1 : 0 ≤ a) (h2 : 0 ≤ b) : Int.gcd b (a % b) = Int.gcd a b := by
  obtain ⟨m, rfl⟩ := Int.eq_ofNat_of_zero_le h1
  obtain ⟨n, rfl⟩ := Int.eq_ofNat_of_zero_le h2
  show Nat.gcd n (((m : Int) % (n : Int)).natAbs) = Nat.gcd m n
  rw [← Int.natCast_emod, Int.natAbs_natCast, Nat.gcd_comm m n, Nat.gcd_rec n m, Nat.gcd_comm]
theorem div_loop {T : List (Str × D)} {G : Ga} : ∀ (n : Nat) (a b : Int) (x : Option D), 0 ≤ a → 0 ≤ b → b < n → ∃ y, whileR (condR T G (.cmp .Gt (.var 1) (.con (.int 0)))) (evSs T G (.cons (.asg (.nm 2) (.bin .Mod (.var 0) (.var 1)))
      (.cons (.asg (.nm 0) (.var 1))
      (.cons (.asg (.nm 1) (.var 2))
      .nil)))) [some (.int a), some (.int b), x] = .ok (.nx [some (.int (Int.gcd a b)), some (.int 0), y])
  | 0, a, b, x, h1, h2, h3 => by omega
  | n + 1, a, b, x, h1, h2, h3 => by
    by_cases hb : 0 < b
    · obtain ⟨y, hy⟩ := div_loop (T := T) (G := G) n b (a % b) (some (.int (a % b))) h2 (Int.emod_nonneg _ (by omega)) (by have := Int.emod_lt_of_pos a hb; omega)
      refine ⟨y, ?_⟩
      have e : Int.gcd b (a % b) = Int.gcd a b := gcd_turn h1 h2
      rw [while_on (r2 := [some (.int b), some (.int (a % b)), some (.int (a % b))]) (by unfold condR; simp only [e_kit, o_kit, R.bind_ok, hb, decide_true]) (by simp only [s_kit, e_kit, o_kit, seq_kit, R.bind_ok, hb, if_true, List.set]), hy, e]
    · have e0 : b = 0 := by omega
      subst e0
      refine ⟨x, ?_⟩
      rw [while_end (by unfold condR; simp only [e_kit, o_kit, R.bind_ok]; rfl)]
      have : ((Int.gcd a 0 : Nat) : Int) = a := by rw [Int.gcd_zero_right]; omega
      rw [this]
theorem divisor_ok {T : List (Str × D)} {G : Ga} (a b : Int) : runD T G dDivisor [.int a, .int b] = .ok (.int (Int.gcd a b)) := by
  rw [run_kit _ _ _ _ rfl]
  show finK (evSs T G dDivisor.body [some (.int a), some (.int b), none]) = _
  obtain ⟨y, hy⟩ := div_loop (T := T) (G := G) ((if b < 0 then -b else b).toNat + 1) (if a < 0 then -a else a) (if b < 0 then -b else b) none (by split <;> omega) (by split <;> omega) (by omega)
  have e1 : (if a < 0 then -a else a).natAbs = a.natAbs := by split <;> omega
  have e2 : (if b < 0 then -b else b).natAbs = b.natAbs := by split <;> omega
  have e : Int.gcd (if a < 0 then -a else a) (if b < 0 then -b else b) = Int.gcd a b := by unfold Int.gcd; rw [e1, e2]
  unfold dDivisor
  simp only [s_kit, e_kit, es_kit, o_kit, R.bind_ok, seq_kit, k_kit, List.set, hy, e]
def dLawDiv : DI where
  nm := "_law_divisor"
  ns := ["_law_one", "_law_other"]
  ps := 2
  dfl := []
  fr := false
  body :=
    (.cons (.whl [] (.cmp .Gt (.var 1) (.con (.int 0)))
      (.cons (.par 0 1 (.var 1) (.bin .Mod (.var 0) (.var 1)))
      .nil))
    (.cons (.ret (.var 0))
    .nil))
theorem lawDiv_loop {T : List (Str × D)} {G : Ga} : ∀ (n : Nat) (a b : Int), 0 ≤ a → 0 ≤ b → b < n → whileR (condR T G (.cmp .Gt (.var 1) (.con (.int 0)))) (evSs T G (.cons (.par 0 1 (.var 1) (.bin .Mod (.var 0) (.var 1)))
      .nil)) [some (.int a), some (.int b)] = .ok (.nx [some (.int (Int.gcd a b)), some (.int 0)])
  | 0, a, b, h1, h2, h3 => by omega
  | n + 1, a, b, h1, h2, h3 => by
    by_cases hb : 0 < b
    · have hy := lawDiv_loop (T := T) (G := G) n b (a % b) h2 (Int.emod_nonneg _ (by omega)) (by have := Int.emod_lt_of_pos a hb; omega)
      rw [while_on (r2 := [some (.int b), some (.int (a % b))]) (by unfold condR; simp only [e_kit, o_kit, R.bind_ok, hb, decide_true]) (by simp only [s_kit, s2_kit, e_kit, o_kit, seq_kit, R.bind_ok, hb, if_true, List.set]), hy, gcd_turn h1 h2]
    · have e0 : b = 0 := by omega
      subst e0
      rw [while_end (by unfold condR; simp only [e_kit, o_kit, R.bind_ok]; rfl)]
      have : ((Int.gcd a 0 : Nat) : Int) = a := by rw [Int.gcd_zero_right]; omega
      rw [this]
theorem lawDiv_ok {T : List (Str × D)} {G : Ga} {a b : Int} (h1 : 0 ≤ a) (h2 : 0 ≤ b) : runD T G dLawDiv [.int a, .int b] = .ok (.int (Int.gcd a b)) := by
  rw [run_kit _ _ _ _ rfl]
  show finK (evSs T G dLawDiv.body [some (.int a), some (.int b)]) = _
  have hy := lawDiv_loop (T := T) (G := G) (b.toNat + 1) a b h1 h2 (by omega)
  unfold dLawDiv
  simp only [s_kit, e_kit, es_kit, o_kit, R.bind_ok, seq_kit, k_kit, List.set, hy]
end PL
namespace PL
open L2 PyProof.Rows PySem.Spec PySem
/-- a ratio as the program writes it -/
def rD (q : Rat) : D := .tup [.int q.num, .int q.den]
theorem mk_num (t : Int) (b : Nat) (hb : b ≠ 0) : (mkRat t b).num = t / (Int.gcd t b : Nat) ∧ ((mkRat t b).den : Int) = (b : Int) / (Int.gcd t b : Nat) := by
  have e : mkRat t b = Rat.normalize t b hb := by unfold mkRat; rw [dif_neg hb]
  have g : Int.gcd t b = Nat.gcd t.natAbs b := by unfold Int.gcd; rw [Int.natAbs_natCast]
  rw [e, g, Rat.normalize_eq]
  exact ⟨rfl, by simp⟩
def dLow (jd : Nat) : DI where
  nm := "_law_low"
  ns := ["_law_top", "_law_bottom", "_law_by"]
  ps := 2
  dfl := []
  fr := true
  body :=
    (.cons (.asg (.nm 2) (.call jd (.cons (.var 0) (.cons (.var 1) .nil)) [] false))
    (.cons (.ret (.tup (.cons (.bin .FloorDiv (.var 0) (.var 2)) (.cons (.bin .FloorDiv (.var 1) (.var 2)) .nil))))
    .nil))
theorem divB_of {j : Int} (h0 : 0 < j) (h1 : j < 2 ^ 8999) : divB j = true := by
  unfold divB
  have : j.natAbs.log2 < 9000 := by
    rw [Nat.log2_lt (by omega)]
    have : (j.natAbs : Int) < 2 ^ 8999 := by omega
    have h2 : j.natAbs < 2 ^ 8999 := by exact_mod_cast this
    exact Nat.lt_of_lt_of_le h2 (Nat.pow_le_pow_right (by decide) (by decide))
  rw [decide_eq_true h0, decide_eq_true this]
  simp
theorem gcd_lt {t b : Int} (hb : 0 < b) (h : b < 2 ^ 8999) : 0 < (Int.gcd t b : Int) ∧ (Int.gcd t b : Int) < 2 ^ 8999 := by
  have h1 : 0 < Int.gcd t b := Int.gcd_pos_of_ne_zero_right t (by omega)
  have h2 : (Int.gcd t b : Int) ≤ b := Int.le_of_dvd hb (Int.gcd_dvd_right t b)
  omega
theorem mk_numI {t b : Int} (hb : 0 < b) : (mkRat t b.toNat).num = t / (Int.gcd t b : Int) ∧ ((mkRat t b.toNat).den : Int) = b / (Int.gcd t b : Int) := by
  obtain ⟨n, rfl⟩ := Int.eq_ofNat_of_zero_le (Int.le_of_lt hb)
  exact mk_num t n (by omega)
theorem low_ok {T : List (Str × D)} {G : Ga} {jd : Nat} {t b : Int} (hG : G jd [.int t, .int b] = .ok (.int (Int.gcd t b))) (hb : 0 < b) (h : b < 2 ^ 8999) : runD T G (dLow jd) [.int t, .int b] = .ok (rD (mkRat t b.toNat)) := by
  rw [run_kit _ _ _ _ rfl]
  show finK (evSs T G (dLow jd).body [some (.int t), some (.int b), none]) = _
  obtain ⟨g0, g1⟩ := gcd_lt (t := t) hb h
  obtain ⟨e1, e2⟩ := mk_numI (t := t) hb
  have d1 := divB_of g0 g1
  unfold dLow rD
  rw [e1, e2]
  simp only [s_kit, e_kit, es_kit, o_kit, R.bind_ok, seq_kit, k_kit, List.set, hG, List.append_nil, d1, if_true]
def dRatio (jw jd : Nat) : DI where
  nm := "ratio"
  ns := ["top", "bottom", "share"]
  ps := 2
  dfl := [.int 1]
  fr := true
  body :=
    (.cons (.ife (.or (.cons (.not (.call jw (.cons (.var 0) .nil) [] false)) (.cons (.not (.call jw (.cons (.var 1) .nil) [] false)) (.cons (.cmp .Eq (.var 1) (.con (.int 0))) .nil))))
      (.cons .never
      .nil)
      .nil)
    (.cons (.asg (.nm 2) (.call jd (.cons (.var 0) (.cons (.var 1) .nil)) [] false))
    (.cons (.ife (.cmp .Lt (.var 1) (.con (.int 0)))
      (.cons (.asg (.nm 2) (.neg (.var 2)))
      .nil)
      .nil)
    (.cons (.ret (.tup (.cons (.bin .FloorDiv (.var 0) (.var 2)) (.cons (.bin .FloorDiv (.var 1) (.var 2)) .nil))))
    .nil))))
theorem ratio_ok {T : List (Str × D)} {G : Ga} {jw jd : Nat} {t b : Int} (hw : ∀ i : Int, G jw [.int i] = .ok (.bl true)) (hG : G jd [.int t, .int b] = .ok (.int (Int.gcd t b))) (hb : 0 < b) (h : b < 2 ^ 8999) : runD T G (dRatio jw jd) [.int t, .int b] = .ok (rD (mkRat t b.toNat)) := by
  rw [run_kit _ _ _ _ rfl]
  show finK (evSs T G (dRatio jw jd).body [some (.int t), some (.int b), none]) = _
  obtain ⟨g0, g1⟩ := gcd_lt (t := t) hb h
  obtain ⟨e1, e2⟩ := mk_numI (t := t) hb
  have d1 := divB_of g0 g1
  have n0 : ¬ b = 0 := by omega
  have n1 : ¬ b < 0 := by omega
  unfold dRatio rD
  rw [e1, e2]
  simp only [s_kit, e_kit, es_kit, o_kit, R.bind_ok, seq_kit, k_kit, List.set, hG, hw, List.append_nil, d1, if_true, Bool.not_true, Bool.false_eq_true, if_false, n0, n1, decide_false]
end PL

namespace PL
open L2 PyProof.Rows PySem.Spec PySem

theorem strOk_of (x : String) : PyData.strOk (Str.ofString x) = true := by
  rw [Str.ofString_eq_toList]
  unfold PyData.strOk
  (rw [← Array.all_toList, List.all_eq_true])
  intro n hn
  obtain ⟨c, _, rfl⟩ := List.mem_map.mp hn
  have := c.valid
  have h : c.toNat < 0x110000 := by
    rcases this with h | h
    · exact Nat.lt_trans h (by decide)
    · exact h.2
  exact decide_eq_true h
def dStretchL (j_l_whole : Nat) : DI where
  nm := "_law_stretch"
  ns := ["_law_one"]
  ps := 1
  dfl := []
  fr := false
  body :=
    (.cons (.ife (.or (.cons (.not (.isi (.var 0) "tuple")) (.cons (.cmp .NotEq (.bi .len (.cons (.var 0) .nil)) (.con (.int 3))) (.cons (.not (.call j_l_whole (.cons (.sub (.var 0) (.con (.int 0))) .nil) [] false)) (.cons (.not (.call j_l_whole (.cons (.sub (.var 0) (.con (.int 1))) .nil) [] false)) .nil)))))
      (.cons (.ret (.con (.bl false)))
      .nil)
      .nil)
    (.cons (.ret (.and (.cons (.cmp .GtE (.sub (.var 0) (.con (.int 0))) (.con (.int 0))) (.cons (.cmp .Lt (.sub (.var 0) (.con (.int 0))) (.sub (.var 0) (.con (.int 1)))) (.cons (.cmp .LtE (.sub (.var 0) (.con (.int 1))) (.con (.int 400))) .nil)))))
    .nil))
def strL : D → Bool
  | .tup [.int f, .int b, _] => decide (0 ≤ f) && (decide (f < b) && decide (b ≤ 400))
  | _ => false
theorem stayB_strL {R now : Int} {d : D} (h : strL d = false) : stayB R now d = false := by
  cases q : stayB R now d with
  | false => rfl
  | true =>
    obtain ⟨s, rfl, ⟨a, b, c⟩, _⟩ := stay_sty q
    have e : strL (syD s) = (decide (0 ≤ s.1) && (decide (s.1 < s.2.1) && decide (s.2.1 ≤ 400))) := rfl
    rw [e, decide_eq_true a, decide_eq_true b, decide_eq_true c] at h
    cases h
theorem strL_ok {T : List (Str × D)} {G : Ga} {jw : Nat} (hw : ∀ d, kn d = true → G jw [d] = .ok (.bl (isI d))) {d : D} (h : Th d) : runD T G (dStretchL jw) [d] = .ok (.bl (strL d)) := by
  refine eq_run (r := [some d]) rfl rfl ?_
  unfold dStretchL
  rcases th3_cases h 0 0 with ⟨f, b, r, rfl, hr⟩ | ⟨x, y, r, rfl, hx, hy, hr, q, e⟩ | ⟨xs, rfl, hl, e⟩ | ⟨hi, e⟩
  · have w := fun i : Int => (hw (.int i) rfl).trans (by rfl : _ = PL.R.ok (D.bl true))
    have er : strL (.tup [.int f, .int b, r]) = (decide (0 ≤ f) && (decide (f < b) && decide (b ≤ 400))) := rfl
    rw [er]
    simp (disch := ((try simp only [List.length_map, List.length_range, List.length_append, List.length_cons, List.length_nil, List.length_replicate, List.length_take, List.length_drop, List.length_set]); omega)) only [s_kit, s2_kit, u_kit, sset_kit, lrev_kit, callk_kit, forq_kit, wg_kit, e_kit, es_kit, wo_kit, wu_kit, seq_kit, tg_kit, wat_kit, wq_kit, wl_kit, nx_kit, wn_kit, wa_kit, wi_kit, turn_kit, wipeE, List.set, PL.R.bind_okN, PL.R.bind_no, PL.R.bind_ex, List.append_nil, List.nil_append, List.cons_append, sub_rngI, sub_I, rng_getD, Option.isNone_none, Option.isNone_some, Option.isSome_none, Option.isSome_some, siz, rngN, rngI, rng_t, app_l, ins_l, slc_toI, slc_fromI, if_t, if_f, dec_t, dec_f, List.any_cons, List.any_nil, if_true, if_false, Bool.false_eq_true, decide_true, decide_false, Bool.not_true, Bool.not_false, Bool.and_true, Bool.true_and, Bool.and_false, Bool.false_and, Bool.or_true, Bool.true_or, Bool.or_false, Bool.false_or, eq_self, not_true_eq_false, not_false_eq_true, Option.some.injEq, reduceCtorEq, Int.toNat_natCast, Int.reduceToNat, tn_kit, nc_kit, Int.natCast_add, List.length_map, List.length_range, List.length_append, List.length_cons, List.length_nil, Nat.reduceAdd, Int.reduceAdd, Int.reduceSub, Int.reduceMul, Int.reduceNeg, Int.zero_add, Int.add_zero, Int.sub_zero, Nat.zero_add, tupI, w]
  · have er : strL (.tup [x, y, r]) = false := by
      cases x <;> first | rfl | skip
      cases y <;> first | rfl | skip
      exact Bool.noConfusion q
    rw [er]
    cases ix : isI x <;> cases iy : isI y <;> first | (exfalso; rw [ix, iy] at q; exact Bool.noConfusion q) | simp (disch := ((try simp only [List.length_map, List.length_range, List.length_append, List.length_cons, List.length_nil, List.length_replicate, List.length_take, List.length_drop, List.length_set]); omega)) only [s_kit, s2_kit, u_kit, sset_kit, lrev_kit, callk_kit, forq_kit, wg_kit, e_kit, es_kit, wo_kit, wu_kit, seq_kit, tg_kit, wat_kit, wq_kit, wl_kit, nx_kit, wn_kit, wa_kit, wi_kit, turn_kit, wipeE, List.set, PL.R.bind_okN, PL.R.bind_no, PL.R.bind_ex, List.append_nil, List.nil_append, List.cons_append, sub_rngI, sub_I, rng_getD, Option.isNone_none, Option.isNone_some, Option.isSome_none, Option.isSome_some, siz, rngN, rngI, rng_t, app_l, ins_l, slc_toI, slc_fromI, if_t, if_f, dec_t, dec_f, List.any_cons, List.any_nil, if_true, if_false, Bool.false_eq_true, decide_true, decide_false, Bool.not_true, Bool.not_false, Bool.and_true, Bool.true_and, Bool.and_false, Bool.false_and, Bool.or_true, Bool.true_or, Bool.or_false, Bool.false_or, eq_self, not_true_eq_false, not_false_eq_true, Option.some.injEq, reduceCtorEq, Int.toNat_natCast, Int.reduceToNat, tn_kit, nc_kit, Int.natCast_add, List.length_map, List.length_range, List.length_append, List.length_cons, List.length_nil, Nat.reduceAdd, Int.reduceAdd, Int.reduceSub, Int.reduceMul, Int.reduceNeg, Int.zero_add, Int.add_zero, Int.sub_zero, Nat.zero_add, tupI, hw x hx, hw y hy, ix, iy]
  · have er : strL (.tup xs) = false := by
      unfold strL
      split
      · rename_i h; cases h; exact absurd rfl hl
      · rfl
    rw [er]
    simp (disch := ((try simp only [List.length_map, List.length_range, List.length_append, List.length_cons, List.length_nil, List.length_replicate, List.length_take, List.length_drop, List.length_set]); omega)) only [s_kit, s2_kit, u_kit, sset_kit, lrev_kit, callk_kit, forq_kit, wg_kit, e_kit, es_kit, wo_kit, wu_kit, seq_kit, tg_kit, wat_kit, wq_kit, wl_kit, nx_kit, wn_kit, wa_kit, wi_kit, turn_kit, wipeE, List.set, PL.R.bind_okN, PL.R.bind_no, PL.R.bind_ex, List.append_nil, List.nil_append, List.cons_append, sub_rngI, sub_I, rng_getD, Option.isNone_none, Option.isNone_some, Option.isSome_none, Option.isSome_some, siz, rngN, rngI, rng_t, app_l, ins_l, slc_toI, slc_fromI, if_t, if_f, dec_t, dec_f, List.any_cons, List.any_nil, if_true, if_false, Bool.false_eq_true, decide_true, decide_false, Bool.not_true, Bool.not_false, Bool.and_true, Bool.true_and, Bool.and_false, Bool.false_and, Bool.or_true, Bool.true_or, Bool.or_false, Bool.false_or, eq_self, not_true_eq_false, not_false_eq_true, Option.some.injEq, reduceCtorEq, Int.toNat_natCast, Int.reduceToNat, tn_kit, nc_kit, Int.natCast_add, List.length_map, List.length_range, List.length_append, List.length_cons, List.length_nil, Nat.reduceAdd, Int.reduceAdd, Int.reduceSub, Int.reduceMul, Int.reduceNeg, Int.zero_add, Int.add_zero, Int.sub_zero, Nat.zero_add, tupI]
  · have er : strL d = false := by
      cases d <;> first | rfl | cases hi
    rw [er]
    simp (disch := ((try simp only [List.length_map, List.length_range, List.length_append, List.length_cons, List.length_nil, List.length_replicate, List.length_take, List.length_drop, List.length_set]); omega)) only [s_kit, s2_kit, u_kit, sset_kit, lrev_kit, callk_kit, forq_kit, wg_kit, e_kit, es_kit, wo_kit, wu_kit, seq_kit, tg_kit, wat_kit, wq_kit, wl_kit, nx_kit, wn_kit, wa_kit, wi_kit, turn_kit, wipeE, List.set, PL.R.bind_okN, PL.R.bind_no, PL.R.bind_ex, List.append_nil, List.nil_append, List.cons_append, sub_rngI, sub_I, rng_getD, Option.isNone_none, Option.isNone_some, Option.isSome_none, Option.isSome_some, siz, rngN, rngI, rng_t, app_l, ins_l, slc_toI, slc_fromI, if_t, if_f, dec_t, dec_f, List.any_cons, List.any_nil, if_true, if_false, Bool.false_eq_true, decide_true, decide_false, Bool.not_true, Bool.not_false, Bool.and_true, Bool.true_and, Bool.and_false, Bool.false_and, Bool.or_true, Bool.true_or, Bool.or_false, Bool.false_or, eq_self, not_true_eq_false, not_false_eq_true, Option.some.injEq, reduceCtorEq, Int.toNat_natCast, Int.reduceToNat, tn_kit, nc_kit, Int.natCast_add, List.length_map, List.length_range, List.length_append, List.length_cons, List.length_nil, Nat.reduceAdd, Int.reduceAdd, Int.reduceSub, Int.reduceMul, Int.reduceNeg, Int.zero_add, Int.add_zero, Int.sub_zero, Nat.zero_add, hi]
def dGoodL (j_l_stretch j_l_whole : Nat) : DI where
  nm := "_law_good"
  ns := ["_law_one", "_law_rooms", "_law_now"]
  ps := 3
  dfl := []
  fr := false
  body :=
    (.cons (.ife (.not (.call j_l_stretch (.cons (.var 0) .nil) [] false))
      (.cons (.ret (.con (.bl false)))
      .nil)
      .nil)
    (.cons (.ife (.cmp .Is (.sub (.var 0) (.con (.int 2))) (.con .non))
      (.cons (.ret (.cmp .GtE (.sub (.var 0) (.con (.int 0))) (.var 2)))
      .nil)
      .nil)
    (.cons (.ife (.or (.cons (.not (.call j_l_whole (.cons (.sub (.var 0) (.con (.int 2))) .nil) [] false)) (.cons (.cmp .Lt (.sub (.var 0) (.con (.int 2))) (.con (.int 0))) (.cons (.cmp .GtE (.sub (.var 0) (.con (.int 2))) (.var 1)) .nil))))
      (.cons (.ret (.con (.bl false)))
      .nil)
      .nil)
    (.cons (.ret (.and (.cons (.cmp .LtE (.sub (.var 0) (.con (.int 0))) (.var 2)) (.cons (.cmp .Lt (.var 2) (.sub (.var 0) (.con (.int 1)))) .nil))))
    .nil))))
theorem goodL_ok {T : List (Str × D)} {G : Ga} {js jw : Nat} {d : D} (hs : G js [d] = .ok (.bl (strL d))) (hw : ∀ d, kn d = true → G jw [d] = .ok (.bl (isI d))) (h : Th d) (R now : Int) : runD T G (dGoodL js jw) [d, .int R, .int now] = .ok (.bl (stayB R now d)) := by
  refine eq_run (r := [some d, some (.int R), some (.int now)]) rfl rfl ?_
  unfold dGoodL
  cases q : strL d with
  | false =>
    rw [q] at hs
    rw [stayB_strL q]
    simp (disch := ((try simp only [List.length_map, List.length_range, List.length_append, List.length_cons, List.length_nil, List.length_replicate, List.length_take, List.length_drop, List.length_set]); omega)) only [s_kit, s2_kit, u_kit, sset_kit, lrev_kit, callk_kit, forq_kit, wg_kit, e_kit, es_kit, wo_kit, wu_kit, seq_kit, tg_kit, wat_kit, wq_kit, wl_kit, nx_kit, wn_kit, wa_kit, wi_kit, turn_kit, wipeE, List.set, PL.R.bind_okN, PL.R.bind_no, PL.R.bind_ex, List.append_nil, List.nil_append, List.cons_append, sub_rngI, sub_I, rng_getD, Option.isNone_none, Option.isNone_some, Option.isSome_none, Option.isSome_some, siz, rngN, rngI, rng_t, app_l, ins_l, slc_toI, slc_fromI, if_t, if_f, dec_t, dec_f, List.any_cons, List.any_nil, if_true, if_false, Bool.false_eq_true, decide_true, decide_false, Bool.not_true, Bool.not_false, Bool.and_true, Bool.true_and, Bool.and_false, Bool.false_and, Bool.or_true, Bool.true_or, Bool.or_false, Bool.false_or, eq_self, not_true_eq_false, not_false_eq_true, Option.some.injEq, reduceCtorEq, Int.toNat_natCast, Int.reduceToNat, tn_kit, nc_kit, Int.natCast_add, List.length_map, List.length_range, List.length_append, List.length_cons, List.length_nil, Nat.reduceAdd, Int.reduceAdd, Int.reduceSub, Int.reduceMul, Int.reduceNeg, Int.zero_add, Int.add_zero, Int.sub_zero, Nat.zero_add, hs]
  | true =>
    rw [q] at hs
    rcases th3_cases h R now with ⟨f, b, r, rfl, hr⟩ | ⟨x, y, r, rfl, hx, hy, hr, q2, e⟩ | ⟨xs, rfl, hl, e⟩ | ⟨hi, e⟩
    · have e : stayB R now (.tup [.int f, .int b, r]) = (strL (.tup [.int f, .int b, r]) && rmB R now f b r) := rfl
      rw [e, q]
      rcases rm_kn hr R now f b with rfl | ⟨i, rfl⟩ | ⟨n1, n2, n3⟩
      · simp (disch := ((try simp only [List.length_map, List.length_range, List.length_append, List.length_cons, List.length_nil, List.length_replicate, List.length_take, List.length_drop, List.length_set]); omega)) only [s_kit, s2_kit, u_kit, sset_kit, lrev_kit, callk_kit, forq_kit, wg_kit, e_kit, es_kit, wo_kit, wu_kit, seq_kit, tg_kit, wat_kit, wq_kit, wl_kit, nx_kit, wn_kit, wa_kit, wi_kit, turn_kit, wipeE, List.set, PL.R.bind_okN, PL.R.bind_no, PL.R.bind_ex, List.append_nil, List.nil_append, List.cons_append, sub_rngI, sub_I, rng_getD, Option.isNone_none, Option.isNone_some, Option.isSome_none, Option.isSome_some, siz, rngN, rngI, rng_t, app_l, ins_l, slc_toI, slc_fromI, if_t, if_f, dec_t, dec_f, List.any_cons, List.any_nil, if_true, if_false, Bool.false_eq_true, decide_true, decide_false, Bool.not_true, Bool.not_false, Bool.and_true, Bool.true_and, Bool.and_false, Bool.false_and, Bool.or_true, Bool.true_or, Bool.or_false, Bool.false_or, eq_self, not_true_eq_false, not_false_eq_true, Option.some.injEq, reduceCtorEq, Int.toNat_natCast, Int.reduceToNat, tn_kit, nc_kit, Int.natCast_add, List.length_map, List.length_range, List.length_append, List.length_cons, List.length_nil, Nat.reduceAdd, Int.reduceAdd, Int.reduceSub, Int.reduceMul, Int.reduceNeg, Int.zero_add, Int.add_zero, Int.sub_zero, Nat.zero_add, hs]
        rfl
      · have w := hw (.int i) rfl
        have w : G jw [.int i] = .ok (.bl true) := w
        have er : rmB R now f b (.int i) = ((decide (0 ≤ i) && decide (i < R)) && (decide (f ≤ now) && decide (now < b))) := rfl
        rw [er]
        by_cases c1 : i < 0
        · simp (disch := ((try simp only [List.length_map, List.length_range, List.length_append, List.length_cons, List.length_nil, List.length_replicate, List.length_take, List.length_drop, List.length_set]); omega)) only [s_kit, s2_kit, u_kit, sset_kit, lrev_kit, callk_kit, forq_kit, wg_kit, e_kit, es_kit, wo_kit, wu_kit, seq_kit, tg_kit, wat_kit, wq_kit, wl_kit, nx_kit, wn_kit, wa_kit, wi_kit, turn_kit, wipeE, List.set, PL.R.bind_okN, PL.R.bind_no, PL.R.bind_ex, List.append_nil, List.nil_append, List.cons_append, sub_rngI, sub_I, rng_getD, Option.isNone_none, Option.isNone_some, Option.isSome_none, Option.isSome_some, siz, rngN, rngI, rng_t, app_l, ins_l, slc_toI, slc_fromI, if_t, if_f, dec_t, dec_f, List.any_cons, List.any_nil, if_true, if_false, Bool.false_eq_true, decide_true, decide_false, Bool.not_true, Bool.not_false, Bool.and_true, Bool.true_and, Bool.and_false, Bool.false_and, Bool.or_true, Bool.true_or, Bool.or_false, Bool.false_or, eq_self, not_true_eq_false, not_false_eq_true, Option.some.injEq, reduceCtorEq, Int.toNat_natCast, Int.reduceToNat, tn_kit, nc_kit, Int.natCast_add, List.length_map, List.length_range, List.length_append, List.length_cons, List.length_nil, Nat.reduceAdd, Int.reduceAdd, Int.reduceSub, Int.reduceMul, Int.reduceNeg, Int.zero_add, Int.add_zero, Int.sub_zero, Nat.zero_add, hs, w, c1]
        · by_cases c2 : R ≤ i
          · simp (disch := ((try simp only [List.length_map, List.length_range, List.length_append, List.length_cons, List.length_nil, List.length_replicate, List.length_take, List.length_drop, List.length_set]); omega)) only [s_kit, s2_kit, u_kit, sset_kit, lrev_kit, callk_kit, forq_kit, wg_kit, e_kit, es_kit, wo_kit, wu_kit, seq_kit, tg_kit, wat_kit, wq_kit, wl_kit, nx_kit, wn_kit, wa_kit, wi_kit, turn_kit, wipeE, List.set, PL.R.bind_okN, PL.R.bind_no, PL.R.bind_ex, List.append_nil, List.nil_append, List.cons_append, sub_rngI, sub_I, rng_getD, Option.isNone_none, Option.isNone_some, Option.isSome_none, Option.isSome_some, siz, rngN, rngI, rng_t, app_l, ins_l, slc_toI, slc_fromI, if_t, if_f, dec_t, dec_f, List.any_cons, List.any_nil, if_true, if_false, Bool.false_eq_true, decide_true, decide_false, Bool.not_true, Bool.not_false, Bool.and_true, Bool.true_and, Bool.and_false, Bool.false_and, Bool.or_true, Bool.true_or, Bool.or_false, Bool.false_or, eq_self, not_true_eq_false, not_false_eq_true, Option.some.injEq, reduceCtorEq, Int.toNat_natCast, Int.reduceToNat, tn_kit, nc_kit, Int.natCast_add, List.length_map, List.length_range, List.length_append, List.length_cons, List.length_nil, Nat.reduceAdd, Int.reduceAdd, Int.reduceSub, Int.reduceMul, Int.reduceNeg, Int.zero_add, Int.add_zero, Int.sub_zero, Nat.zero_add, hs, w, c1, c2]
          · simp (disch := ((try simp only [List.length_map, List.length_range, List.length_append, List.length_cons, List.length_nil, List.length_replicate, List.length_take, List.length_drop, List.length_set]); omega)) only [s_kit, s2_kit, u_kit, sset_kit, lrev_kit, callk_kit, forq_kit, wg_kit, e_kit, es_kit, wo_kit, wu_kit, seq_kit, tg_kit, wat_kit, wq_kit, wl_kit, nx_kit, wn_kit, wa_kit, wi_kit, turn_kit, wipeE, List.set, PL.R.bind_okN, PL.R.bind_no, PL.R.bind_ex, List.append_nil, List.nil_append, List.cons_append, sub_rngI, sub_I, rng_getD, Option.isNone_none, Option.isNone_some, Option.isSome_none, Option.isSome_some, siz, rngN, rngI, rng_t, app_l, ins_l, slc_toI, slc_fromI, if_t, if_f, dec_t, dec_f, List.any_cons, List.any_nil, if_true, if_false, Bool.false_eq_true, decide_true, decide_false, Bool.not_true, Bool.not_false, Bool.and_true, Bool.true_and, Bool.and_false, Bool.false_and, Bool.or_true, Bool.true_or, Bool.or_false, Bool.false_or, eq_self, not_true_eq_false, not_false_eq_true, Option.some.injEq, reduceCtorEq, Int.toNat_natCast, Int.reduceToNat, tn_kit, nc_kit, Int.natCast_add, List.length_map, List.length_range, List.length_append, List.length_cons, List.length_nil, Nat.reduceAdd, Int.reduceAdd, Int.reduceSub, Int.reduceMul, Int.reduceNeg, Int.zero_add, Int.add_zero, Int.sub_zero, Nat.zero_add, hs, w, c1, c2]
      · have w := hw r hr
        rw [n2] at w
        simp (disch := ((try simp only [List.length_map, List.length_range, List.length_append, List.length_cons, List.length_nil, List.length_replicate, List.length_take, List.length_drop, List.length_set]); omega)) only [s_kit, s2_kit, u_kit, sset_kit, lrev_kit, callk_kit, forq_kit, wg_kit, e_kit, es_kit, wo_kit, wu_kit, seq_kit, tg_kit, wat_kit, wq_kit, wl_kit, nx_kit, wn_kit, wa_kit, wi_kit, turn_kit, wipeE, List.set, PL.R.bind_okN, PL.R.bind_no, PL.R.bind_ex, List.append_nil, List.nil_append, List.cons_append, sub_rngI, sub_I, rng_getD, Option.isNone_none, Option.isNone_some, Option.isSome_none, Option.isSome_some, siz, rngN, rngI, rng_t, app_l, ins_l, slc_toI, slc_fromI, if_t, if_f, dec_t, dec_f, List.any_cons, List.any_nil, if_true, if_false, Bool.false_eq_true, decide_true, decide_false, Bool.not_true, Bool.not_false, Bool.and_true, Bool.true_and, Bool.and_false, Bool.false_and, Bool.or_true, Bool.true_or, Bool.or_false, Bool.false_or, eq_self, not_true_eq_false, not_false_eq_true, Option.some.injEq, reduceCtorEq, Int.toNat_natCast, Int.reduceToNat, tn_kit, nc_kit, Int.natCast_add, List.length_map, List.length_range, List.length_append, List.length_cons, List.length_nil, Nat.reduceAdd, Int.reduceAdd, Int.reduceSub, Int.reduceMul, Int.reduceNeg, Int.zero_add, Int.add_zero, Int.sub_zero, Nat.zero_add, hs, w, n1, n3]
    · exfalso
      cases x <;> first | exact Bool.noConfusion q | skip
      cases y <;> first | exact Bool.noConfusion q | skip
      exact Bool.noConfusion q2
    · exfalso
      unfold strL at q
      split at q
      · rename_i h; cases h; exact hl rfl
      · cases q
    · exfalso
      cases d <;> first | cases q | cases hi
/-- odd stays -/
def oddT (f b r R a1 a2 a3 a4 a5 now : Int) : List D := [.non, .tup [.int f, .int b], .lst [.int f, .int b, .non], .tup [.int b, .int f, .non], .tup [.int f, .int f, .non], .tup [.int (-1), .int b, .non], .tup [.int f, .int 401, .non], .tup [.bl true, .int b, .non],
  .tup [.int f, .str (toString b), .non], .int 3, .tup [.int f, .int b, .bl true], .tup [.int f, .int b, .bl false], .tup [.int f, .int b, .int R], .tup [.int f, .int b, .int (-1)], .tup [.int f, .int b, .str "0"], .tup [.int f, .int b, .lst [.int 0]], .str "", .dK [] [],
  .tup [.int a1, .int 400, .int r], .tup [.int a2, .int a3, .int r], .tup [.int a4, .int 400, .non], .tup [.int a5, .int 400, .int r], .tup [.int now, .int 400, .int r], .tup [.int now, .int 400, .int r], .tup [.int f, .int b, .non, .non]]
def Os (d : D) : Prop := Th d ∧ sfQ 59 d = true
theorem oddT_in {f b r R a1 a2 a3 a4 a5 now : Int} {d : D} (h : d ∈ oddT f b r R a1 a2 a3 a4 a5 now) : Os d := by
  unfold oddT at h
  simp only [List.mem_cons, List.not_mem_nil, or_false] at h
  have st : plainD 58 (.str (toString b : String)) = true := strOk_of _
  rcases h with rfl | rfl | rfl | rfl | rfl | rfl | rfl | rfl | rfl | rfl | rfl | rfl | rfl | rfl | rfl | rfl | rfl | rfl | rfl | rfl | rfl | rfl | rfl | rfl | rfl
  all_goals first | exact ⟨th_of rfl, rfl⟩ | exact ⟨th_of rfl, by decide +kernel⟩ | skip
  · refine ⟨th_of rfl, ?_⟩
    have e : plainD 59 (.tup [.int f, .str (toString b : String), .non]) = true := by
      show ([_, _, _] : List D).all (plainD 58) = true
      rw [List.all_cons, List.all_cons, st]; rfl
    show (plainD 59 (.tup [.int f, .str (toString b : String), .non]) || _) = true
    rw [e]; rfl
  · refine ⟨th_of rfl, ?_⟩
    have e : plainD 59 (.tup [.int f, .int b, .str "0"]) = true := by
      show ([_, _, _] : List D).all (plainD 58) = true
      rw [List.all_cons, List.all_cons, List.all_cons, show plainD 58 (.str "0") = true from by decide +kernel]; rfl
    show (plainD 59 (.tup [.int f, .int b, .str "0"]) || _) = true
    rw [e]; rfl
def dOddS (j_l_part : Nat) : DI where
  nm := "_law_odd"
  ns := ["_law_script", "_law_at", "_law_rooms", "_law_now", "_law_first", "_law_behind", "_law_room", "_law_some"]
  ps := 4
  dfl := []
  fr := false
  body :=
    (.cons (.asg (.nm 4) (.bi .min (.cons (.con (.int 399)) (.cons (.bin .Add (.var 3) (.call j_l_part (.cons (.var 0) (.cons (.var 1) (.cons (.con (.int 1)) (.cons (.con (.int 5)) .nil)))) [] false)) .nil))))
    (.cons (.asg (.nm 5) (.bi .min (.cons (.con (.int 400)) (.cons (.bin .Add (.bin .Add (.var 4) (.con (.int 1))) (.call j_l_part (.cons (.var 0) (.cons (.var 1) (.cons (.con (.int 2)) (.cons (.con (.int 5)) .nil)))) [] false)) .nil))))
    (.cons (.asg (.nm 6) (.call j_l_part (.cons (.var 0) (.cons (.var 1) (.cons (.con (.int 3)) (.cons (.bin .Add (.var 2) (.con (.int 1))) .nil)))) [] false))
    (.cons (.asg (.nm 7) (.lst (.cons (.con .non) (.cons (.tup (.cons (.var 4) (.cons (.var 5) .nil))) (.cons (.lst (.cons (.var 4) (.cons (.var 5) (.cons (.con .non) .nil)))) (.cons (.tup (.cons (.var 5) (.cons (.var 4) (.cons (.con .non) .nil)))) (.cons (.tup (.cons (.var 4) (.cons (.var 4) (.cons (.con .non) .nil)))) .nil)))))))
    (.cons (.asg (.nm 7) (.bin .Add (.var 7) (.lst (.cons (.tup (.cons (.neg (.con (.int 1))) (.cons (.var 5) (.cons (.con .non) .nil)))) (.cons (.tup (.cons (.var 4) (.cons (.con (.int 401)) (.cons (.con .non) .nil)))) (.cons (.tup (.cons (.con (.bl true)) (.cons (.var 5) (.cons (.con .non) .nil)))) (.cons (.tup (.cons (.var 4) (.cons (.u1 .strI (.var 5)) (.cons (.con .non) .nil)))) (.cons (.con (.int 3)) .nil))))))))
    (.cons (.asg (.nm 7) (.bin .Add (.var 7) (.lst (.cons (.tup (.cons (.var 4) (.cons (.var 5) (.cons (.con (.bl true)) .nil)))) (.cons (.tup (.cons (.var 4) (.cons (.var 5) (.cons (.con (.bl false)) .nil)))) .nil)))))
    (.cons (.asg (.nm 7) (.bin .Add (.var 7) (.lst (.cons (.tup (.cons (.var 4) (.cons (.var 5) (.cons (.var 2) .nil)))) (.cons (.tup (.cons (.var 4) (.cons (.var 5) (.cons (.neg (.con (.int 1))) .nil)))) (.cons (.tup (.cons (.var 4) (.cons (.var 5) (.cons (.con (.str "0")) .nil)))) (.cons (.tup (.cons (.var 4) (.cons (.var 5) (.cons (.lst (.cons (.con (.int 0)) .nil)) .nil)))) (.cons (.con (.str "")) (.cons (.u0 false) .nil)))))))))
    (.cons (.asg (.nm 7) (.bin .Add (.var 7) (.lst (.cons (.tup (.cons (.bi .min (.cons (.con (.int 399)) (.cons (.bin .Add (.var 3) (.con (.int 1))) .nil))) (.cons (.con (.int 400)) (.cons (.var 6) .nil)))) (.cons (.tup (.cons (.bi .max (.cons (.con (.int 0)) (.cons (.bin .Sub (.var 3) (.con (.int 3))) .nil))) (.cons (.bi .max (.cons (.con (.int 1)) (.cons (.var 3) .nil))) (.cons (.var 6) .nil)))) (.cons (.tup (.cons (.bi .max (.cons (.con (.int 0)) (.cons (.bin .Sub (.var 3) (.con (.int 1))) .nil))) (.cons (.con (.int 400)) (.cons (.con .non) .nil)))) .nil))))))
    (.cons (.asg (.nm 7) (.bin .Add (.var 7) (.lst (.cons (.tup (.cons (.bi .max (.cons (.con (.int 0)) (.cons (.bin .Sub (.var 3) (.con (.int 2))) .nil))) (.cons (.con (.int 400)) (.cons (.var 6) .nil)))) (.cons (.tup (.cons (.var 3) (.cons (.con (.int 400)) (.cons (.var 6) .nil)))) (.cons (.tup (.cons (.var 3) (.cons (.con (.int 400)) (.cons (.var 6) .nil)))) (.cons (.tup (.cons (.var 4) (.cons (.var 5) (.cons (.con .non) (.cons (.con .non) .nil))))) .nil)))))))
    (.cons (.ret (.sub (.var 7) (.call j_l_part (.cons (.var 0) (.cons (.var 1) (.cons (.con (.int 0)) (.cons (.bi .len (.cons (.var 7) .nil)) .nil)))) [] false)))
    .nil))))))))))
theorem oddS_ok {T : List (Str × D)} {G : Ga} {jp : Nat} {s : D} {i R now : Int} (hp : PartG G jp s) (hi : 0 ≤ i) (hi1 : i < 2 ^ 30) (hR : 0 ≤ R) (hR1 : R ≤ 100) (h0 : 0 ≤ now) (h1 : now < 400) : ∃ d, Os d ∧ runD T G (dOddS jp) [s, .int i, .int R, .int now] = .ok d := by
  obtain ⟨a, a0, a1, ea⟩ := hp i 1 5 hi hi1 (by omega) (by omega) (by omega)
  obtain ⟨b, b0, b1, eb⟩ := hp i 2 5 hi hi1 (by omega) (by omega) (by omega)
  obtain ⟨r, r0, r1, er⟩ := hp i 3 (R + 1) hi hi1 (by omega) (by omega) (by omega)
  obtain ⟨v, v0, v1, ev⟩ := hp i 0 25 hi hi1 (by omega) (by omega) (by omega)
  obtain ⟨f, hf⟩ : ∃ f : Int, f = if now + a < 399 then now + a else 399 := ⟨_, rfl⟩
  obtain ⟨u, hu⟩ : ∃ u : Int, u = if f + 1 + b < 400 then f + 1 + b else 400 := ⟨_, rfl⟩
  have u1 : 0 ≤ u ∧ u ≤ 400 := by
    have : 0 ≤ f := by rw [hf]; split <;> omega
    rw [hu]; split <;> omega
  obtain ⟨d, hd, ed⟩ := at_in (xs := oddT f u r R (if now + 1 < 399 then now + 1 else 399) (if now - 3 > 0 then now - 3 else 0) (if now > 1 then now else 1) (if now - 1 > 0 then now - 1 else 0) (if now - 2 > 0 then now - 2 else 0) now) v0 v1
  unfold oddT at ed
  have hs : u1D .strI (.int u) = .ok (.str (toString u)) := by
    have : u.natAbs.log2 < 1920 := by
      by_cases q : u.natAbs = 0
      · rw [q]; decide
      · rw [Nat.log2_lt q]
        exact Nat.lt_of_lt_of_le (show u.natAbs < 2 ^ 10 by omega) (Nat.pow_le_pow_right (by decide) (by decide))
    show (if u.natAbs.log2 < 1920 then _ else _) = _
    rw [if_pos this]
  refine ⟨d, oddT_in hd, ?_⟩
  refine eq_run (r := [some s, some (.int i), some (.int R), some (.int now), none, none, none, none]) rfl rfl ?_
  unfold dOddS
  simp (disch := ((try simp only [List.length_map, List.length_range, List.length_append, List.length_cons, List.length_nil, List.length_replicate, List.length_take, List.length_drop, List.length_set]); omega)) only [s_kit, s2_kit, u_kit, sset_kit, lrev_kit, callk_kit, forq_kit, wg_kit, e_kit, es_kit, wo_kit, wu_kit, seq_kit, tg_kit, wat_kit, wq_kit, wl_kit, nx_kit, wn_kit, wa_kit, wi_kit, turn_kit, wipeE, List.set, PL.R.bind_okN, PL.R.bind_no, PL.R.bind_ex, List.append_nil, List.nil_append, List.cons_append, sub_rngI, sub_I, rng_getD, Option.isNone_none, Option.isNone_some, Option.isSome_none, Option.isSome_some, siz, rngN, rngI, rng_t, app_l, ins_l, slc_toI, slc_fromI, if_t, if_f, dec_t, dec_f, List.any_cons, List.any_nil, if_true, if_false, Bool.false_eq_true, decide_true, decide_false, Bool.not_true, Bool.not_false, Bool.and_true, Bool.true_and, Bool.and_false, Bool.false_and, Bool.or_true, Bool.true_or, Bool.or_false, Bool.false_or, eq_self, not_true_eq_false, not_false_eq_true, Option.some.injEq, reduceCtorEq, Int.toNat_natCast, Int.reduceToNat, tn_kit, nc_kit, Int.natCast_add, List.length_map, List.length_range, List.length_append, List.length_cons, List.length_nil, Nat.reduceAdd, Int.reduceAdd, Int.reduceSub, Int.reduceMul, Int.reduceNeg, Int.zero_add, Int.add_zero, Int.sub_zero, Nat.zero_add, ea, ← hf, eb, ← hu, er, hs, show ((25 : Nat) : Int) = 25 from rfl, ev, ed]
theorem in_oD (r : Int) (b : List (Option Int)) : cmpD .In (.int r) (.lst (b.map oD)) = .ok (b.any fun z => decide (z = some r)) := by
  have f : (b.map oD).all flatD = true := by rw [List.all_map, List.all_eq_true]; intro z _; exact flat_oD z
  show (if (flatD (.int r) && (b.map oD).all flatD) || (plainD 60 (.int r) && plainD 60 (.lst (b.map oD))) then PL.R.ok ((b.map oD).any fun z => deq z (.int r)) else .no) = _
  rw [f, List.any_map]
  show PL.R.ok _ = _
  congr 2
  funext z
  exact deq_oD z r
theorem chk_cases {R now : Int} : ∀ (ds : List D) (k : Nat) (tk : List Int), chkS R now k tk ds = .ok .non ∨ (∃ j : Nat, chkS R now k tk ds = refV "NoStay" "at" (.int (j : Nat))) ∨ ∃ r : Int, chkS R now k tk ds = refV "Taken" "room" (.int r)
  | [], _, _ => .inl rfl
  | d :: ds, k, tk => by
    rw [chkS_cons]
    split
    · split
      · split
        · exact .inr (.inr ⟨_, rfl⟩)
        · exact chk_cases ds _ _
      · exact chk_cases ds _ _
    · exact .inr (.inl ⟨_, rfl⟩)
end PL

namespace Law_nightbook_k32_stays_refused
open PL L2 PyProof.Rows PySem.Spec PySem
def d_is_whole : DI where
  nm := "is_whole"
  ns := ["thing"]
  ps := 1
  dfl := []
  fr := false
  body :=
    (.cons (.ret (.and (.cons (.isi (.var 0) "int") (.cons (.not (.isi (.var 0) "bool")) .nil))))
    .nil)
def d_is_stretch : DI where
  nm := "is_stretch"
  ns := ["thing"]
  ps := 1
  dfl := []
  fr := true
  body :=
    (.cons (.ife (.or (.cons (.not (.isi (.var 0) "tuple")) (.cons (.cmp .NotEq (.bi .len (.cons (.var 0) .nil)) (.con (.int 2))) .nil)))
      (.cons (.ret (.con (.bl false)))
      .nil)
      .nil)
    (.cons (.ife (.or (.cons (.not (.call 0 (.cons (.sub (.var 0) (.con (.int 0))) .nil) [] false)) (.cons (.not (.call 0 (.cons (.sub (.var 0) (.con (.int 1))) .nil) [] false)) .nil)))
      (.cons (.ret (.con (.bl false)))
      .nil)
      .nil)
    (.cons (.ret (.cmp3 .LtE .Lt .LtE (.con (.int 0)) (.sub (.var 0) (.con (.int 0))) (.sub (.var 0) (.con (.int 1))) (.glob 0)))
    .nil)))
def d_holds : DI where
  nm := "holds"
  ns := ["stretch", "night"]
  ps := 2
  dfl := []
  fr := true
  body :=
    (.cons (.ret (.cmp2 .LtE .Lt (.sub (.var 0) (.con (.int 0))) (.var 1) (.sub (.var 0) (.con (.int 1)))))
    .nil)
def d_shared : DI where
  nm := "shared"
  ns := ["one", "other", "first", "behind"]
  ps := 2
  dfl := []
  fr := true
  body :=
    (.cons (.asg (.nm 2) (.bi .max (.cons (.sub (.var 0) (.con (.int 0))) (.cons (.sub (.var 1) (.con (.int 0))) .nil))))
    (.cons (.asg (.nm 3) (.bi .min (.cons (.sub (.var 0) (.con (.int 1))) (.cons (.sub (.var 1) (.con (.int 1))) .nil))))
    (.cons (.ife (.cmp .Lt (.var 2) (.var 3))
      (.cons (.ret (.tup (.cons (.var 2) (.cons (.var 3) .nil))))
      .nil)
      .nil)
    (.cons (.ret (.con .non))
    .nil))))
def d_meets : DI where
  nm := "meets"
  ns := ["one", "other"]
  ps := 2
  dfl := []
  fr := true
  body :=
    (.cons (.ret (.cmp .IsNot (.call 3 (.cons (.var 0) (.cons (.var 1) .nil)) [] false) (.con .non)))
    .nil)
def d_count_at : DI where
  nm := "count_at"
  ns := ["stretches", "night", "one"]
  ps := 2
  dfl := []
  fr := false
  body :=
    (.cons (.ret (.bi .len (.cons (.comp [2] (.var 2) (.nm 2) (.ex (.var 0)) (.some (.call 2 (.cons (.var 2) (.cons (.var 1) .nil)) [] false))) .nil)))
    .nil)
def d_edges : DI where
  nm := "edges"
  ns := ["stretches", "one"]
  ps := 1
  dfl := []
  fr := true
  body :=
    (.cons (.ret (.sset (.bin .Add (.comp [1] (.sub (.var 1) (.con (.int 0))) (.nm 1) (.ex (.var 0)) .none) (.comp [1] (.sub (.var 1) (.con (.int 1))) (.nm 1) (.ex (.var 0)) .none))))
    .nil)
def d_counts : DI where
  nm := "counts"
  ns := ["stretches", "found", "places", "k", "many", "first"]
  ps := 1
  dfl := []
  fr := true
  body :=
    (.cons (.asg (.nm 1) (.lst .nil))
    (.cons (.asg (.nm 2) (.call 6 (.cons (.var 0) .nil) [] false))
    (.cons (.forr [1, 2] (.nm 3) (.rg1 (.bin .Sub (.bi .len (.cons (.var 2) .nil)) (.con (.int 1))))
      (.cons (.asg (.nm 4) (.call 5 (.cons (.var 0) (.cons (.sub (.var 2) (.var 3)) .nil)) [] false))
      (.cons (.ife (.and (.cons (.cmp .NotEq (.var 1) (.lst .nil)) (.cons (.cmp .Eq (.sub (.sub (.var 1) (.neg (.con (.int 1)))) (.con (.int 2))) (.var 4)) .nil)))
        (.cons (.popSub 5 1 (.con (.int 0)))
        .nil)
        (.cons (.asg (.nm 5) (.sub (.var 2) (.var 3)))
        .nil))
      (.cons (.app 1 (.tup (.cons (.var 5) (.cons (.sub (.var 2) (.bin .Add (.var 3) (.con (.int 1)))) (.cons (.var 4) .nil)))))
      .nil))))
    (.cons (.ret (.var 1))
    .nil))))
def d_fuller : DI where
  nm := "fuller"
  ns := ["stretches", "many", "since", "first", "behind", "count"]
  ps := 3
  dfl := [(.int 0)]
  fr := false
  body :=
    (.cons (.ife (.cmp .Lt (.var 1) (.con (.int 0)))
      (.cons (.ret (.var 2))
      .nil)
      .nil)
    (.cons (.forr [] (.tp (.cons (.nm 3) (.cons (.nm 4) (.cons (.nm 5) .nil)))) (.ex (.fls (.call 7 (.cons (.var 0) .nil) [] false)))
      (.cons (.ife (.and (.cons (.cmp .Gt (.var 5) (.var 1)) (.cons (.cmp .Gt (.var 4) (.var 2)) .nil)))
        (.cons (.ret (.bi .max (.cons (.var 3) (.cons (.var 2) .nil))))
        .nil)
        .nil)
      .nil))
    (.cons (.ret (.con .non))
    .nil)))
def d_is_stay : DI where
  nm := "is_stay"
  ns := ["thing", "rooms", "now", "first", "behind", "room"]
  ps := 3
  dfl := []
  fr := false
  body :=
    (.cons (.ife (.or (.cons (.not (.isi (.var 0) "tuple")) (.cons (.cmp .NotEq (.bi .len (.cons (.var 0) .nil)) (.con (.int 3))) (.cons (.not (.call 1 (.cons (.slc (.var 0) .none (.some (.con (.int 2)))) .nil) [] false)) .nil))))
      (.cons (.ret (.con (.bl false)))
      .nil)
      .nil)
    (.cons (.asg (.tp (.cons (.nm 3) (.cons (.nm 4) (.cons (.nm 5) .nil)))) (.var 0))
    (.cons (.ife (.cmp .Is (.var 5) (.con .non))
      (.cons (.ret (.cmp .GtE (.var 3) (.var 2)))
      .nil)
      .nil)
    (.cons (.ret (.and (.cons (.call 0 (.cons (.var 5) .nil) [] false) (.cons (.cmp2 .LtE .Lt (.con (.int 0)) (.var 5) (.var 1)) (.cons (.cmp2 .LtE .Lt (.var 3) (.var 2) (.var 4)) .nil)))))
    .nil))))
def d_check_stays : DI where
  nm := "check_stays"
  ns := ["stays", "rooms", "now", "taken", "at", "stay"]
  ps := 3
  dfl := []
  fr := true
  body :=
    (.cons (.asg (.nm 3) (.lst .nil))
    (.cons (.forr [3] (.tp (.cons (.nm 4) (.cons (.nm 5) .nil))) (.enum (.var 0))
      (.cons (.ife (.not (.call 9 (.cons (.var 5) (.cons (.var 1) (.cons (.var 2) .nil))) [] false))
        (.cons (.rais "NoStay" (some "at") (.var 4))
        .nil)
        .nil)
      (.cons (.ife (.cmp .IsNot (.sub (.var 5) (.con (.int 2))) (.con .non))
        (.cons (.ife (.cmp .In (.sub (.var 5) (.con (.int 2))) (.var 3))
          (.cons (.rais "Taken" (some "room") (.sub (.var 5) (.con (.int 2))))
          .nil)
          .nil)
        (.cons (.app 3 (.sub (.var 5) (.con (.int 2))))
        .nil))
        .nil)
      .nil)))
    .nil))
def d_stretches_of : DI where
  nm := "stretches_of"
  ns := ["stays", "stay"]
  ps := 1
  dfl := []
  fr := true
  body :=
    (.cons (.ret (.comp [1] (.slc (.var 1) .none (.some (.con (.int 2)))) (.nm 1) (.ex (.var 0)) .none))
    .nil)
def d_check_nights : DI where
  nm := "check_nights"
  ns := ["stays", "rooms", "now", "night"]
  ps := 3
  dfl := []
  fr := true
  body :=
    (.cons (.asg (.nm 3) (.call 8 (.cons (.call 11 (.cons (.var 0) .nil) [] false) (.cons (.var 1) (.cons (.var 2) .nil))) [] false))
    (.cons (.ife (.cmp .IsNot (.var 3) (.con .non))
      (.cons (.rais "TooFull" (some "night") (.var 3))
      .nil)
      .nil)
    .nil))
def d_by_first : DI where
  nm := "by_first"
  ns := ["stays", "first", "at"]
  ps := 1
  dfl := []
  fr := true
  body :=
    (.cons (.ret (.comp [1, 2] (.var 2) (.tp (.cons (.nm 1) (.cons (.nm 2) .nil))) (.ex (.bi .sorted (.cons (.comp [2] (.tup (.cons (.sub (.sub (.var 0) (.var 2)) (.con (.int 0))) (.cons (.var 2) .nil))) (.nm 2) (.rg1 (.bi .len (.cons (.var 0) .nil))) .none) .nil))) .none))
    .nil)
def d_free_room : DI where
  nm := "free_room"
  ns := ["stays", "plan", "some", "night", "busy", "at", "stay", "room"]
  ps := 4
  dfl := []
  fr := false
  body :=
    (.cons (.asg (.nm 4) (.lst .nil))
    (.cons (.forr [4] (.tp (.cons (.nm 5) (.cons (.nm 6) .nil))) (.enum (.var 0))
      (.cons (.ife (.and (.cons (.cmp .IsNot (.sub (.var 1) (.var 5)) (.con .non)) (.cons (.cmp2 .LtE .Lt (.sub (.var 6) (.con (.int 0))) (.var 3) (.sub (.var 6) (.con (.int 1)))) .nil)))
        (.cons (.app 4 (.sub (.var 1) (.var 5)))
        .nil)
        .nil)
      .nil))
    (.cons (.ret (.sub (.comp [7] (.var 7) (.nm 7) (.ex (.var 2)) (.some (.cmp .NotIn (.var 7) (.var 4)))) (.con (.int 0))))
    .nil)))
def d_seated : DI where
  nm := "seated"
  ns := ["stays", "rooms", "now", "plan", "at", "stay"]
  ps := 3
  dfl := [(.int 0)]
  fr := true
  body :=
    (.cons (.expr (.call 10 (.cons (.var 0) (.cons (.var 1) (.cons (.var 2) .nil))) [] false))
    (.cons (.expr (.call 12 (.cons (.var 0) (.cons (.var 1) (.cons (.var 2) .nil))) [] false))
    (.cons (.asg (.nm 3) (.comp [5] (.sub (.var 5) (.con (.int 2))) (.nm 5) (.ex (.var 0)) .none))
    (.cons (.forr [3] (.nm 4) (.ex (.call 13 (.cons (.var 0) .nil) [] false))
      (.cons (.ife (.cmp .Is (.sub (.var 3) (.var 4)) (.con .non))
        (.cons (.sets 3 (.var 4) (.call 14 (.cons (.var 0) (.cons (.var 3) (.cons (.u1 .lrg1 (.var 1)) (.cons (.sub (.sub (.var 0) (.var 4)) (.con (.int 0))) .nil)))) [] true))
        .nil)
        .nil)
      .nil))
    (.cons (.ret (.var 3))
    .nil)))))
def d_is_plan : DI where
  nm := "is_plan"
  ns := ["stays", "rooms", "now", "thing", "at", "k"]
  ps := 4
  dfl := []
  fr := true
  body :=
    (.cons (.expr (.call 10 (.cons (.var 0) (.cons (.var 1) (.cons (.var 2) .nil))) [] false))
    (.cons (.ife (.or (.cons (.not (.isi (.var 3) "list")) (.cons (.cmp .NotEq (.bi .len (.cons (.var 3) .nil)) (.bi .len (.cons (.var 0) .nil))) .nil)))
      (.cons (.ret (.con (.bl false)))
      .nil)
      .nil)
    (.cons (.forr [] (.nm 4) (.rg1 (.bi .len (.cons (.var 0) .nil)))
      (.cons (.ife (.or (.cons (.not (.call 0 (.cons (.sub (.var 3) (.var 4)) .nil) [] false)) (.cons (.not (.cmp2 .LtE .Lt (.con (.int 0)) (.sub (.var 3) (.var 4)) (.var 1))) .nil)))
        (.cons (.ret (.con (.bl false)))
        .nil)
        .nil)
      (.cons (.ife (.and (.cons (.cmp .IsNot (.sub (.sub (.var 0) (.var 4)) (.con (.int 2))) (.con .non)) (.cons (.cmp .NotEq (.sub (.sub (.var 0) (.var 4)) (.con (.int 2))) (.sub (.var 3) (.var 4))) .nil)))
        (.cons (.ret (.con (.bl false)))
        .nil)
        .nil)
      .nil)))
    (.cons (.forr [] (.nm 4) (.rg1 (.bi .len (.cons (.var 0) .nil)))
      (.cons (.forr [] (.nm 5) (.rg1 (.var 4))
        (.cons (.ife (.and (.cons (.cmp .Eq (.sub (.var 3) (.var 5)) (.sub (.var 3) (.var 4))) (.cons (.call 4 (.cons (.slc (.sub (.var 0) (.var 5)) .none (.some (.con (.int 2)))) (.cons (.slc (.sub (.var 0) (.var 4)) .none (.some (.con (.int 2)))) .nil)) [] false) .nil)))
          (.cons (.ret (.con (.bl false)))
          .nil)
          .nil)
        .nil))
      .nil))
    (.cons (.ret (.con (.bl true)))
    .nil)))))
def d__law_cell : DI where
  nm := "_law_cell"
  ns := ["_law_script", "_law_at"]
  ps := 2
  dfl := []
  fr := true
  body :=
    (.cons (.ife (.cmp .Lt (.var 1) (.bi .len (.cons (.var 0) .nil)))
      (.cons (.ret (.bin .Mod (.sub (.var 0) (.var 1)) (.con (.int 1000000007))))
      .nil)
      .nil)
    (.cons (.ife (.cmp .Eq (.var 0) (.lst .nil))
      (.cons (.ret (.bin .Add (.bin .Mult (.con (.int 7919)) (.var 1)) (.con (.int 5000011))))
      .nil)
      .nil)
    (.cons (.ret (.bin .Add (.bin .Mod (.sub (.var 0) (.bin .Mod (.bin .Mult (.var 1) (.con (.int 7))) (.bi .len (.cons (.var 0) .nil)))) (.con (.int 1000000007))) (.bin .Mult (.con (.int 7919)) (.var 1))))
    .nil)))
def d__law_part : DI where
  nm := "_law_part"
  ns := ["_law_script", "_law_at", "_law_k", "_law_many", "_law_number", "_law_j"]
  ps := 4
  dfl := []
  fr := true
  body :=
    (.cons (.ife (.and (.cons (.cmp .Lt (.var 1) (.bi .len (.cons (.var 0) .nil))) (.cons (.cmp .GtE (.sub (.var 0) (.var 1)) (.bin .Pow (.con (.int 10)) (.con (.int 40)))) .nil)))
      (.cons (.asg (.nm 4) (.sub (.var 0) (.var 1)))
      (.cons (.forr [] (.nm 5) (.rg1 (.var 2))
        (.cons (.asg (.nm 4) (.bin .FloorDiv (.var 4) (.con (.int 1000003))))
        .nil))
      (.cons (.ife (.cmp .Gt (.var 4) (.con (.int 0)))
        (.cons (.ret (.bin .Mod (.bin .Mod (.var 4) (.con (.int 1000003))) (.var 3)))
        .nil)
        .nil)
      .nil)))
      .nil)
    (.cons (.asg (.nm 4) (.bin .Mod (.bin .Mult (.bin .Add (.bin .Add (.call 17 (.cons (.var 0) (.cons (.var 1) .nil)) [] false) (.bin .Mult (.con (.int 65537)) (.var 1))) (.con (.int 3))) (.bin .Add (.con (.int 1299709)) (.bin .Mult (.con (.int 15485863)) (.var 2)))) (.con (.int 2147483629))))
    (.cons (.asg (.nm 4) (.bin .Add (.bin .Mod (.bin .Mult (.var 4) (.var 4)) (.con (.int 1500450271))) (.con (.int 104729))))
    (.cons (.ret (.bin .Mod (.bin .FloorDiv (.bin .Mod (.bin .Mult (.var 4) (.var 4)) (.con (.int 715827883))) (.con (.int 64))) (.var 3)))
    .nil))))
def d__law_whole : DI where
  nm := "_law_whole"
  ns := ["_law_found"]
  ps := 1
  dfl := []
  fr := false
  body :=
    (.cons (.ret (.and (.cons (.isi (.var 0) "int") (.cons (.not (.isi (.var 0) "bool")) .nil))))
    .nil)
def d__law_stay : DI where
  nm := "_law_stay"
  ns := ["_law_script", "_law_at", "_law_turn", "_law_mode", "_law_now", "_law_first", "_law_long"]
  ps := 5
  dfl := []
  fr := true
  body :=
    (.cons (.asg (.nm 5) (.bi .min (.cons (.con (.int 399)) (.cons (.bin .Add (.var 4) (.call 18 (.cons (.var 0) (.cons (.var 1) (.cons (.var 2) (.cons (.sub (.lst (.cons (.con (.int 3)) (.cons (.con (.int 9)) (.cons (.con (.int 30)) (.cons (.con (.int 150)) .nil))))) (.var 3)) .nil)))) [] false)) .nil))))
    (.cons (.asg (.nm 6) (.bin .Add (.con (.int 1)) (.call 18 (.cons (.var 0) (.cons (.var 1) (.cons (.bin .Add (.var 2) (.con (.int 1))) (.cons (.sub (.lst (.cons (.con (.int 2)) (.cons (.con (.int 6)) (.cons (.con (.int 30)) (.cons (.con (.int 200)) .nil))))) (.call 18 (.cons (.var 0) (.cons (.var 1) (.cons (.bin .Add (.var 2) (.con (.int 2))) (.cons (.con (.int 4)) .nil)))) [] false)) .nil)))) [] false)))
    (.cons (.ret (.tup (.cons (.var 5) (.cons (.bi .min (.cons (.con (.int 400)) (.cons (.bin .Add (.var 5) (.var 6)) .nil))) (.cons (.con .non) .nil)))))
    .nil)))
def d__law_guest : DI where
  nm := "_law_guest"
  ns := ["_law_script", "_law_at", "_law_turn", "_law_now", "_law_room", "_law_first", "_law_more"]
  ps := 5
  dfl := []
  fr := true
  body :=
    (.cons (.asg (.nm 5) (.bi .max (.cons (.con (.int 0)) (.cons (.bin .Sub (.var 3) (.call 18 (.cons (.var 0) (.cons (.var 1) (.cons (.var 2) (.cons (.con (.int 6)) .nil)))) [] false)) .nil))))
    (.cons (.asg (.nm 6) (.call 18 (.cons (.var 0) (.cons (.var 1) (.cons (.bin .Add (.var 2) (.con (.int 1))) (.cons (.sub (.lst (.cons (.con (.int 2)) (.cons (.con (.int 9)) (.cons (.con (.int 60)) .nil)))) (.call 18 (.cons (.var 0) (.cons (.var 1) (.cons (.bin .Add (.var 2) (.con (.int 2))) (.cons (.con (.int 3)) .nil)))) [] false)) .nil)))) [] false))
    (.cons (.ret (.tup (.cons (.var 5) (.cons (.bi .min (.cons (.con (.int 400)) (.cons (.bin .Add (.bin .Add (.var 3) (.con (.int 1))) (.var 6)) .nil))) (.cons (.var 4) .nil)))))
    .nil)))
def d__law_full : DI where
  nm := "_law_full"
  ns := ["_law_stays_here", "_law_rooms", "_law_now", "_law_night", "_law_one"]
  ps := 3
  dfl := []
  fr := false
  body :=
    (.cons (.forr [] (.nm 3) (.ex (.bi .sorted (.cons (.bin .Add (.lst (.cons (.var 2) .nil)) (.comp [4] (.bi .max (.cons (.var 2) (.cons (.sub (.var 4) (.con (.int 0))) .nil))) (.nm 4) (.ex (.var 0)) .none)) .nil)))
      (.cons (.ife (.cmp .Gt (.bi .len (.cons (.comp [4] (.var 4) (.nm 4) (.ex (.var 0)) (.some (.and (.cons (.cmp .LtE (.sub (.var 4) (.con (.int 0))) (.var 3)) (.cons (.cmp .Lt (.var 3) (.sub (.var 4) (.con (.int 1)))) .nil))))) .nil)) (.var 1))
        (.cons (.ret (.var 3))
        .nil)
        .nil)
      .nil))
    (.cons (.ret (.con .non))
    .nil))
def d__law_numbers : DI where
  nm := "_law_numbers"
  ns := ["_law_script", "_law_now", "_law_rooms"]
  ps := 1
  dfl := []
  fr := true
  body :=
    (.cons (.asg (.nm 1) (.lst (.cons (.con (.int 0)) (.cons (.call 18 (.cons (.var 0) (.cons (.con (.int 0)) (.cons (.con (.int 1)) (.cons (.con (.int 40)) .nil)))) [] false) (.cons (.call 18 (.cons (.var 0) (.cons (.con (.int 0)) (.cons (.con (.int 1)) (.cons (.con (.int 400)) .nil)))) [] false) (.cons (.bin .Sub (.con (.int 399)) (.call 18 (.cons (.var 0) (.cons (.con (.int 0)) (.cons (.con (.int 1)) (.cons (.con (.int 4)) .nil)))) [] false)) .nil))))))
    (.cons (.asg (.nm 2) (.lst (.cons (.call 18 (.cons (.var 0) (.cons (.con (.int 0)) (.cons (.con (.int 3)) (.cons (.con (.int 4)) .nil)))) [] false) (.cons (.bin .Add (.con (.int 1)) (.call 18 (.cons (.var 0) (.cons (.con (.int 0)) (.cons (.con (.int 3)) (.cons (.con (.int 3)) .nil)))) [] false)) (.cons (.call 18 (.cons (.var 0) (.cons (.con (.int 0)) (.cons (.con (.int 3)) (.cons (.con (.int 13)) .nil)))) [] false) .nil)))))
    (.cons (.ret (.tup (.cons (.sub (.var 2) (.call 18 (.cons (.var 0) (.cons (.con (.int 0)) (.cons (.con (.int 4)) (.cons (.con (.int 3)) .nil)))) [] false)) (.cons (.sub (.var 1) (.call 18 (.cons (.var 0) (.cons (.con (.int 0)) (.cons (.con (.int 2)) (.cons (.con (.int 4)) .nil)))) [] false)) .nil))))
    .nil)))
def d__law_stays : DI where
  nm := "_law_stays"
  ns := ["_law_script", "_law_rooms", "_law_now", "_law_most", "_law_mode", "_law_stays_here", "_law_room", "_law_at", "_law_many", "_law_wide", "_law_loose", "_law_k", "_law_new"]
  ps := 4
  dfl := []
  fr := true
  body :=
    (.cons (.asg (.nm 4) (.call 18 (.cons (.var 0) (.cons (.con (.int 0)) (.cons (.con (.int 0)) (.cons (.con (.int 4)) .nil)))) [] false))
    (.cons (.asg (.nm 5) (.lst .nil))
    (.cons (.forr [4, 5] (.nm 6) (.rg1 (.var 1))
      (.cons (.ife (.and (.cons (.cmp .Eq (.call 18 (.cons (.var 0) (.cons (.con (.int 1)) (.cons (.var 6) (.cons (.con (.int 3)) .nil)))) [] false) (.con (.int 1))) (.cons (.cmp .Lt (.bi .len (.cons (.var 5) .nil)) (.var 3)) .nil)))
        (.cons (.asg (.nm 7) (.call 18 (.cons (.var 0) (.cons (.con (.int 1)) (.cons (.bin .Add (.con (.int 12)) (.var 6)) (.cons (.bin .Add (.bi .len (.cons (.var 5) .nil)) (.con (.int 1))) .nil)))) [] false))
        (.cons (.ins 5 (.var 7) (.call 21 (.cons (.var 0) (.cons (.con (.int 2)) (.cons (.bin .Mult (.con (.int 3)) (.var 6)) (.cons (.var 2) (.cons (.var 6) .nil))))) [] false))
        .nil))
        .nil)
      .nil))
    (.cons (.asg (.nm 8) (.call 18 (.cons (.var 0) (.cons (.con (.int 0)) (.cons (.con (.int 5)) (.cons (.con (.int 12)) .nil)))) [] false))
    (.cons (.asg (.nm 9) (.cmp .Eq (.call 18 (.cons (.var 0) (.cons (.con (.int 0)) (.cons (.con (.int 6)) (.cons (.con (.int 6)) .nil)))) [] false) (.con (.int 1))))
    (.cons (.asg (.nm 10) (.cmp .Eq (.call 18 (.cons (.var 0) (.cons (.con (.int 0)) (.cons (.con (.int 7)) (.cons (.con (.int 4)) .nil)))) [] false) (.con (.int 1))))
    (.cons (.forr [5, 8] (.nm 11) (.rg1 (.sub (.lst (.cons (.var 8) (.cons (.con (.int 24)) .nil))) (.bi .int (.cons (.var 9) .nil))))
      (.cons (.asg (.nm 12) (.call 20 (.cons (.var 0) (.cons (.bin .Add (.con (.int 10)) (.var 11)) (.cons (.con (.int 0)) (.cons (.var 4) (.cons (.var 2) .nil))))) [] false))
      (.cons (.asg (.nm 7) (.call 18 (.cons (.var 0) (.cons (.con (.int 4)) (.cons (.var 11) (.cons (.bin .Add (.bi .len (.cons (.var 5) .nil)) (.con (.int 1))) .nil)))) [] false))
      (.cons (.ife (.and (.cons (.cmp .Lt (.bi .len (.cons (.var 5) .nil)) (.var 3)) (.cons (.or (.cons (.var 10) (.cons (.cmp .Is (.call 22 (.cons (.bin .Add (.var 5) (.lst (.cons (.var 12) .nil))) (.cons (.var 1) (.cons (.var 2) .nil))) [] false) (.con .non)) .nil))) .nil)))
        (.cons (.ins 5 (.var 7) (.var 12))
        .nil)
        .nil)
      .nil))))
    (.cons (.ret (.var 5))
    .nil))))))))
def d__law_right : DI where
  nm := "_law_right"
  ns := ["_law_plan", "_law_stays_here", "_law_rooms", "_law_at", "_law_k"]
  ps := 3
  dfl := []
  fr := true
  body :=
    (.cons (.ife (.or (.cons (.not (.isi (.var 0) "list")) (.cons (.cmp .NotEq (.bi .len (.cons (.var 0) .nil)) (.bi .len (.cons (.var 1) .nil))) .nil)))
      (.cons (.ret (.con (.bl false)))
      .nil)
      .nil)
    (.cons (.forr [] (.nm 3) (.rg1 (.bi .len (.cons (.var 1) .nil)))
      (.cons (.ife (.or (.cons (.not (.call 19 (.cons (.sub (.var 0) (.var 3)) .nil) [] false)) (.cons (.cmp .Lt (.sub (.var 0) (.var 3)) (.con (.int 0))) (.cons (.cmp .GtE (.sub (.var 0) (.var 3)) (.var 2)) .nil))))
        (.cons (.ret (.con (.bl false)))
        .nil)
        .nil)
      (.cons (.ife (.and (.cons (.cmp .IsNot (.sub (.sub (.var 1) (.var 3)) (.con (.int 2))) (.con .non)) (.cons (.cmp .NotEq (.sub (.sub (.var 1) (.var 3)) (.con (.int 2))) (.sub (.var 0) (.var 3))) .nil)))
        (.cons (.ret (.con (.bl false)))
        .nil)
        .nil)
      (.cons (.forr [] (.nm 4) (.rg1 (.var 3))
        (.cons (.ife (.and (.cons (.cmp .Eq (.sub (.var 0) (.var 4)) (.sub (.var 0) (.var 3))) (.cons (.cmp .Lt (.sub (.sub (.var 1) (.var 4)) (.con (.int 0))) (.sub (.sub (.var 1) (.var 3)) (.con (.int 1)))) (.cons (.cmp .Lt (.sub (.sub (.var 1) (.var 3)) (.con (.int 0))) (.sub (.sub (.var 1) (.var 4)) (.con (.int 1)))) .nil))))
          (.cons (.ret (.con (.bl false)))
          .nil)
          .nil)
        .nil))
      .nil))))
    (.cons (.ret (.con (.bl true)))
    .nil)))
def d__law_stretch : DI where
  nm := "_law_stretch"
  ns := ["_law_one"]
  ps := 1
  dfl := []
  fr := false
  body :=
    (.cons (.ife (.or (.cons (.not (.isi (.var 0) "tuple")) (.cons (.cmp .NotEq (.bi .len (.cons (.var 0) .nil)) (.con (.int 3))) (.cons (.not (.call 19 (.cons (.sub (.var 0) (.con (.int 0))) .nil) [] false)) (.cons (.not (.call 19 (.cons (.sub (.var 0) (.con (.int 1))) .nil) [] false)) .nil)))))
      (.cons (.ret (.con (.bl false)))
      .nil)
      .nil)
    (.cons (.ret (.and (.cons (.cmp .GtE (.sub (.var 0) (.con (.int 0))) (.con (.int 0))) (.cons (.cmp .Lt (.sub (.var 0) (.con (.int 0))) (.sub (.var 0) (.con (.int 1)))) (.cons (.cmp .LtE (.sub (.var 0) (.con (.int 1))) (.con (.int 400))) .nil)))))
    .nil))
def d__law_good : DI where
  nm := "_law_good"
  ns := ["_law_one", "_law_rooms", "_law_now"]
  ps := 3
  dfl := []
  fr := false
  body :=
    (.cons (.ife (.not (.call 26 (.cons (.var 0) .nil) [] false))
      (.cons (.ret (.con (.bl false)))
      .nil)
      .nil)
    (.cons (.ife (.cmp .Is (.sub (.var 0) (.con (.int 2))) (.con .non))
      (.cons (.ret (.cmp .GtE (.sub (.var 0) (.con (.int 0))) (.var 2)))
      .nil)
      .nil)
    (.cons (.ife (.or (.cons (.not (.call 19 (.cons (.sub (.var 0) (.con (.int 2))) .nil) [] false)) (.cons (.cmp .Lt (.sub (.var 0) (.con (.int 2))) (.con (.int 0))) (.cons (.cmp .GtE (.sub (.var 0) (.con (.int 2))) (.var 1)) .nil))))
      (.cons (.ret (.con (.bl false)))
      .nil)
      .nil)
    (.cons (.ret (.and (.cons (.cmp .LtE (.sub (.var 0) (.con (.int 0))) (.var 2)) (.cons (.cmp .Lt (.var 2) (.sub (.var 0) (.con (.int 1)))) .nil))))
    .nil))))
def d__law_due : DI where
  nm := "_law_due"
  ns := ["_law_stays_here", "_law_rooms", "_law_now", "_law_taken", "_law_at", "_law_night"]
  ps := 3
  dfl := []
  fr := true
  body :=
    (.cons (.asg (.nm 3) (.lst .nil))
    (.cons (.forr [3] (.nm 4) (.rg1 (.bi .len (.cons (.var 0) .nil)))
      (.cons (.ife (.not (.call 27 (.cons (.sub (.var 0) (.var 4)) (.cons (.var 1) (.cons (.var 2) .nil))) [] false))
        (.cons (.ret (.tup (.cons (.con (.str "stay")) (.cons (.var 4) .nil))))
        .nil)
        .nil)
      (.cons (.ife (.and (.cons (.cmp .IsNot (.sub (.sub (.var 0) (.var 4)) (.con (.int 2))) (.con .non)) (.cons (.cmp .In (.sub (.sub (.var 0) (.var 4)) (.con (.int 2))) (.var 3)) .nil)))
        (.cons (.ret (.tup (.cons (.con (.str "taken")) (.cons (.sub (.sub (.var 0) (.var 4)) (.con (.int 2))) .nil))))
        .nil)
        .nil)
      (.cons (.app 3 (.sub (.sub (.var 0) (.var 4)) (.con (.int 2))))
      .nil))))
    (.cons (.asg (.nm 5) (.call 22 (.cons (.var 0) (.cons (.var 1) (.cons (.var 2) .nil))) [] false))
    (.cons (.ife (.cmp .IsNot (.var 5) (.con .non))
      (.cons (.ret (.tup (.cons (.con (.str "full")) (.cons (.var 5) .nil))))
      .nil)
      .nil)
    (.cons (.ret (.tup (.cons (.con (.str "told")) (.cons (.con (.int 0)) .nil))))
    .nil)))))
def d__law_odd : DI where
  nm := "_law_odd"
  ns := ["_law_script", "_law_at", "_law_rooms", "_law_now", "_law_first", "_law_behind", "_law_room", "_law_some"]
  ps := 4
  dfl := []
  fr := false
  body :=
    (.cons (.asg (.nm 4) (.bi .min (.cons (.con (.int 399)) (.cons (.bin .Add (.var 3) (.call 18 (.cons (.var 0) (.cons (.var 1) (.cons (.con (.int 1)) (.cons (.con (.int 5)) .nil)))) [] false)) .nil))))
    (.cons (.asg (.nm 5) (.bi .min (.cons (.con (.int 400)) (.cons (.bin .Add (.bin .Add (.var 4) (.con (.int 1))) (.call 18 (.cons (.var 0) (.cons (.var 1) (.cons (.con (.int 2)) (.cons (.con (.int 5)) .nil)))) [] false)) .nil))))
    (.cons (.asg (.nm 6) (.call 18 (.cons (.var 0) (.cons (.var 1) (.cons (.con (.int 3)) (.cons (.bin .Add (.var 2) (.con (.int 1))) .nil)))) [] false))
    (.cons (.asg (.nm 7) (.lst (.cons (.con .non) (.cons (.tup (.cons (.var 4) (.cons (.var 5) .nil))) (.cons (.lst (.cons (.var 4) (.cons (.var 5) (.cons (.con .non) .nil)))) (.cons (.tup (.cons (.var 5) (.cons (.var 4) (.cons (.con .non) .nil)))) (.cons (.tup (.cons (.var 4) (.cons (.var 4) (.cons (.con .non) .nil)))) .nil)))))))
    (.cons (.asg (.nm 7) (.bin .Add (.var 7) (.lst (.cons (.tup (.cons (.neg (.con (.int 1))) (.cons (.var 5) (.cons (.con .non) .nil)))) (.cons (.tup (.cons (.var 4) (.cons (.con (.int 401)) (.cons (.con .non) .nil)))) (.cons (.tup (.cons (.con (.bl true)) (.cons (.var 5) (.cons (.con .non) .nil)))) (.cons (.tup (.cons (.var 4) (.cons (.u1 .strI (.var 5)) (.cons (.con .non) .nil)))) (.cons (.con (.int 3)) .nil))))))))
    (.cons (.asg (.nm 7) (.bin .Add (.var 7) (.lst (.cons (.tup (.cons (.var 4) (.cons (.var 5) (.cons (.con (.bl true)) .nil)))) (.cons (.tup (.cons (.var 4) (.cons (.var 5) (.cons (.con (.bl false)) .nil)))) .nil)))))
    (.cons (.asg (.nm 7) (.bin .Add (.var 7) (.lst (.cons (.tup (.cons (.var 4) (.cons (.var 5) (.cons (.var 2) .nil)))) (.cons (.tup (.cons (.var 4) (.cons (.var 5) (.cons (.neg (.con (.int 1))) .nil)))) (.cons (.tup (.cons (.var 4) (.cons (.var 5) (.cons (.con (.str "0")) .nil)))) (.cons (.tup (.cons (.var 4) (.cons (.var 5) (.cons (.lst (.cons (.con (.int 0)) .nil)) .nil)))) (.cons (.con (.str "")) (.cons (.u0 false) .nil)))))))))
    (.cons (.asg (.nm 7) (.bin .Add (.var 7) (.lst (.cons (.tup (.cons (.bi .min (.cons (.con (.int 399)) (.cons (.bin .Add (.var 3) (.con (.int 1))) .nil))) (.cons (.con (.int 400)) (.cons (.var 6) .nil)))) (.cons (.tup (.cons (.bi .max (.cons (.con (.int 0)) (.cons (.bin .Sub (.var 3) (.con (.int 3))) .nil))) (.cons (.bi .max (.cons (.con (.int 1)) (.cons (.var 3) .nil))) (.cons (.var 6) .nil)))) (.cons (.tup (.cons (.bi .max (.cons (.con (.int 0)) (.cons (.bin .Sub (.var 3) (.con (.int 1))) .nil))) (.cons (.con (.int 400)) (.cons (.con .non) .nil)))) .nil))))))
    (.cons (.asg (.nm 7) (.bin .Add (.var 7) (.lst (.cons (.tup (.cons (.bi .max (.cons (.con (.int 0)) (.cons (.bin .Sub (.var 3) (.con (.int 2))) .nil))) (.cons (.con (.int 400)) (.cons (.var 6) .nil)))) (.cons (.tup (.cons (.var 3) (.cons (.con (.int 400)) (.cons (.var 6) .nil)))) (.cons (.tup (.cons (.var 3) (.cons (.con (.int 400)) (.cons (.var 6) .nil)))) (.cons (.tup (.cons (.var 4) (.cons (.var 5) (.cons (.con .non) (.cons (.con .non) .nil))))) .nil)))))))
    (.cons (.ret (.sub (.var 7) (.call 18 (.cons (.var 0) (.cons (.var 1) (.cons (.con (.int 0)) (.cons (.bi .len (.cons (.var 7) .nil)) .nil)))) [] false)))
    .nil))))))))))
def d__law_put : DI where
  nm := "_law_put"
  ns := ["_law_script", "_law_at", "_law_stays_here", "_law_rooms", "_law_now", "_law_found", "_law_place", "_law_odd_here"]
  ps := 5
  dfl := []
  fr := true
  body :=
    (.cons (.asg (.nm 5) (.bi .list (.cons (.var 2) .nil)))
    (.cons (.asg (.nm 6) (.call 18 (.cons (.var 0) (.cons (.var 1) (.cons (.con (.int 4)) (.cons (.bin .Add (.bi .len (.cons (.var 5) .nil)) (.con (.int 1))) .nil)))) [] false))
    (.cons (.asg (.nm 7) (.call 29 (.cons (.var 0) (.cons (.var 1) (.cons (.var 3) (.cons (.var 4) .nil)))) [] false))
    (.cons (.ife (.and (.cons (.cmp .Lt (.var 6) (.bi .len (.cons (.var 5) .nil))) (.cons (.cmp .Eq (.call 18 (.cons (.var 0) (.cons (.var 1) (.cons (.con (.int 5)) (.cons (.con (.int 2)) .nil)))) [] false) (.con (.int 1))) .nil)))
      (.cons (.sets 5 (.var 6) (.var 7))
      .nil)
      (.cons (.ife (.cmp .Lt (.bi .len (.cons (.var 5) .nil)) (.con (.int 24)))
        (.cons (.ins 5 (.var 6) (.var 7))
        .nil)
        .nil)
      .nil))
    (.cons (.ret (.var 5))
    .nil)))))
def d__law_caught : DI where
  nm := "_law_caught"
  ns := ["_law_way", "_law_stays_here", "_law_rooms", "_law_now", "e", "_law_kinds", "_law_stay_here"]
  ps := 4
  dfl := []
  fr := true
  body :=
    (.cons (.tryx
      (.cons (.ife (.cmp .Eq (.var 0) (.con (.int 0)))
        (.cons (.expr (.call 15 (.cons (.var 1) (.cons (.var 2) (.cons (.var 3) .nil))) [] false))
        .nil)
        (.cons (.expr (.call 16 (.cons (.var 1) (.cons (.var 2) (.cons (.var 3) (.cons (.comp [6] (.con (.int 0)) (.nm 6) (.ex (.var 1)) .none) .nil)))) [] false))
        .nil))
      .nil)
      "InnError" (some 4)
      (.cons (.asg (.nm 5) (.lst (.cons (.exIs 4 ["NoStay"]) (.cons (.exIs 4 ["Taken"]) (.cons (.exIs 4 ["TooFull"]) .nil)))))
      (.cons (.ife (.or (.cons (.not (.exIs 4 ["ValueError"])) (.cons (.cmp .NotEq (.u2 .cnt (.var 5) (.con (.bl true))) (.con (.int 1))) .nil)))
        (.cons (.ret (.tup (.cons (.con (.str "odd")) (.cons (.con (.int 0)) .nil))))
        .nil)
        .nil)
      (.cons (.ife (.sub (.var 5) (.con (.int 0)))
        (.cons (.ret (.tup (.cons (.con (.str "stay")) (.cons (.exAt 4 "at") .nil))))
        .nil)
        .nil)
      (.cons (.ife (.sub (.var 5) (.con (.int 1)))
        (.cons (.ret (.tup (.cons (.con (.str "taken")) (.cons (.exAt 4 "room") .nil))))
        .nil)
        .nil)
      (.cons (.ret (.tup (.cons (.con (.str "full")) (.cons (.exAt 4 "night") .nil))))
      .nil))))))
    (.cons (.ret (.tup (.cons (.con (.str "told")) (.cons (.con (.int 0)) .nil))))
    .nil))
def d__law_told : DI where
  nm := "_law_told"
  ns := ["_law_stays_here", "_law_rooms", "_law_now", "_law_due_here", "_law_handed", "_law_found"]
  ps := 3
  dfl := []
  fr := false
  body :=
    (.cons (.asg (.nm 3) (.call 28 (.cons (.var 0) (.cons (.var 1) (.cons (.var 2) .nil))) [] false))
    (.cons (.asg (.nm 4) (.bi .list (.cons (.var 0) .nil)))
    (.cons (.asg (.nm 5) (.call 31 (.cons (.con (.int 0)) (.cons (.var 4) (.cons (.var 1) (.cons (.var 2) .nil)))) [] false))
    (.cons (.ife (.or (.cons (.cmp .NotEq (.var 5) (.var 3)) (.cons (.not (.call 19 (.cons (.sub (.var 5) (.con (.int 1))) .nil) [] false)) (.cons (.cmp .NotEq (.var 4) (.var 0)) .nil))))
      (.cons (.ret (.con (.bl false)))
      .nil)
      .nil)
    (.cons (.ife (.cmp .Eq (.sub (.var 3) (.con (.int 0))) (.con (.str "full")))
      (.cons (.asg (.nm 3) (.tup (.cons (.con (.str "told")) (.cons (.con (.int 0)) .nil))))
      .nil)
      .nil)
    (.cons (.ret (.and (.cons (.cmp .Eq (.call 31 (.cons (.con (.int 1)) (.cons (.var 4) (.cons (.var 1) (.cons (.var 2) .nil)))) [] false) (.var 3)) (.cons (.cmp .Eq (.var 4) (.var 0)) .nil))))
    .nil))))))
def d_law : DI where
  nm := "law"
  ns := ["_law_script", "_law_rooms", "_law_now", "_law_stays_here", "_law_one", "_law_both", "_law_some"]
  ps := 1
  dfl := []
  fr := true
  body :=
    (.cons (.asg (.tp (.cons (.nm 1) (.cons (.nm 2) .nil))) (.call 23 (.cons (.var 0) .nil) [] false))
    (.cons (.asg (.nm 3) (.call 24 (.cons (.var 0) (.cons (.var 1) (.cons (.var 2) (.cons (.con (.int 22)) .nil)))) [] false))
    (.cons (.asg (.nm 4) (.call 30 (.cons (.var 0) (.cons (.con (.int 40)) (.cons (.var 3) (.cons (.var 1) (.cons (.var 2) .nil))))) [] false))
    (.cons (.asg (.nm 5) (.call 30 (.cons (.var 0) (.cons (.con (.int 41)) (.cons (.var 4) (.cons (.var 1) (.cons (.var 2) .nil))))) [] false))
    (.cons (.forr [] (.nm 6) (.ex (.lst (.cons (.var 3) (.cons (.var 5) (.cons (.var 4) (.cons (.call 30 (.cons (.var 0) (.cons (.con (.int 42)) (.cons (.var 3) (.cons (.var 1) (.cons (.var 2) .nil))))) [] false) (.cons (.var 3) .nil)))))))
      (.cons (.ife (.not (.call 32 (.cons (.var 6) (.cons (.var 1) (.cons (.var 2) .nil))) [] false))
        (.cons (.ret (.con (.bl false)))
        .nil)
        .nil)
      .nil))
    (.cons (.ret (.con (.bl true)))
    .nil))))))
def fs : List DI := [d_is_whole, d_is_stretch, d_holds, d_shared, d_meets, d_count_at, d_edges, d_counts, d_fuller, d_is_stay, d_check_stays, d_stretches_of, d_check_nights, d_by_first, d_free_room, d_seated, d_is_plan, d__law_cell, d__law_part, d__law_whole, d__law_stay, d__law_guest, d__law_full, d__law_numbers, d__law_stays, d__law_right, d__law_stretch, d__law_good, d__law_due, d__law_odd, d__law_put, d__law_caught, d__law_told, d_law]
def csts : List (Str × D) := [("NIGHTS", (.int 400))]
def frees : List Str := ["ValueError", "bool", "enumerate", "int", "isinstance", "len", "list", "max", "min", "range", "set", "sorted", "str", "tuple"]
def xcs : List (Str × Option Str) := [("InnError", none), ("NoStay", some "at"), ("Taken", some "room"), ("TooFull", some "night")]
def ck : Ck := { cst := csts, fs := fs, free := frees, xc := xcs }
end Law_nightbook_k32_stays_refused

namespace Law_nightbook_k32_stays_refused
open PL L2 PyProof.Rows PySem.Spec PySem
abbrev S (ns : List Int) : D := .lst (ns.map .int)
theorem whole_g {n : Nat} (hn : 1 ≤ n) (d : D) (h : kn d = true) : GA ck.cst ck.fs n 0 [d] = .ok (.bl (isI d)) := (GA_at (d := d_is_whole) rfl hn _).trans (whl (nm := "is_whole") (x := "thing") h)
theorem stretch_g {n : Nat} (hn : 2 ≤ n) {d : D} (h : Th d) : GA ck.cst ck.fs n 1 [d] = .ok (.bl (strB d)) := (GA_at (d := d_is_stretch) rfl (by omega) _).trans (isStretch_ok (jN := 0) (fun _ => rfl) (fun d => whole_g (by omega) d) h)
theorem holds_g {n : Nat} (hn : 1 ≤ n) (s : Sp2) (x : Int) : GA ck.cst ck.fs n 2 [stD s, .int x] = .ok (.bl (hol x s)) := (GA_at (d := d_holds) rfl (by omega) _).trans (holds_ok s x)
theorem shared_g {n : Nat} (hn : 1 ≤ n) (a b : Sp2) : ∃ d, PL.isNon d = !mtS a b ∧ GA ck.cst ck.fs n 3 [stD a, stD b] = .ok d := (shared_ok a b).imp fun _ z => ⟨z.1, (GA_at (d := d_shared) rfl (by omega) _).trans z.2⟩
theorem meets_g {n : Nat} (hn : 2 ≤ n) (a b : Sp2) : GA ck.cst ck.fs n 4 [stD a, stD b] = .ok (.bl (mtS a b)) := (GA_at (d := d_meets) rfl (by omega) _).trans (meets_ok (shared_g (by omega) a b))
theorem count_g {n : Nat} (hn : 2 ≤ n) {S : List Sp2} (hl : S.length ≤ 1000) (x : Int) : GA ck.cst ck.fs n 5 [.lst (S.map stD), .int x] = .ok (.int (cntS S x)) := (GA_at (d := d_count_at) rfl (by omega) _).trans (count_ok (fun s x => holds_g (by omega) s x) hl x)
theorem edges_g {n : Nat} (hn : 1 ≤ n) {S : List Sp2} (hl : S.length ≤ 1000) : GA ck.cst ck.fs n 6 [.lst (S.map stD)] = .ok (.lst ((edgS S).map .int)) := (GA_at (d := d_edges) rfl (by omega) _).trans (edges_ok hl)
theorem counts_g {n : Nat} (hn : 3 ≤ n) {S : List Sp2} (hl : S.length ≤ 1000) : GA ck.cst ck.fs n 7 [.lst (S.map stD)] = .ok (.lst ((runsS S).map trD)) := (GA_at (d := d_counts) rfl (by omega) _).trans (counts_ok hl (edges_g (by omega) hl) (fun x => count_g (by omega) hl x))
theorem fuller_g {n : Nat} (hn : 4 ≤ n) {S : List Sp2} (hl : S.length ≤ 1000) (m s : Int) : GA ck.cst ck.fs n 8 [.lst (S.map stD), .int m, .int s] = .ok (if m < 0 then .int s else fulS S m s) := (GA_at (d := d_fuller) rfl (by omega) _).trans (fuller_ok (counts_g (by omega) hl) m s)
theorem isStay_g {n : Nat} (hn : 3 ≤ n) {d : D} (h : Th d) (R now : Int) : GA ck.cst ck.fs n 9 [d, .int R, .int now] = .ok (.bl (stayB R now d)) := (GA_at (d := d_is_stay) rfl (by omega) _).trans (isStay_ok (fun d h => stretch_g (by omega) h) (fun d h => whole_g (by omega) d h) h R now)
theorem chk_g {n : Nat} (hn : 4 ≤ n) {ds : List D} (hl : ds.length ≤ 1000) (h : ∀ d ∈ ds, Th d) (R now : Int) : GA ck.cst ck.fs n 10 [.lst ds, .int R, .int now] = chkS R now 0 [] ds := (GA_at (d := d_check_stays) rfl (by omega) _).trans (chkStays_ok hl (fun d hd => isStay_g (by omega) (h d hd) R now) (.inr ⟨rfl, rfl⟩))
theorem syTh (s : Sty) : Th (syD s) := ⟨rfl, fun xs e x hx => by cases e; simp at hx; rcases hx with rfl | rfl | rfl <;> first | rfl | (cases s.2.2 <;> rfl)⟩
theorem chkS_g {n : Nat} (hn : 4 ≤ n) {S : List Sty} {R now : Int} (hl : S.length ≤ 1000) (st : StY S R now) (h0 : 0 ≤ now) : GA ck.cst ck.fs n 10 [.lst (S.map syD), .int R, .int now] = .ok .non :=
  (chk_g hn (by rw [List.length_map]; exact hl) (fun d hd => by obtain ⟨s, _, rfl⟩ := List.mem_map.mp hd; exact syTh s) R now ).trans (st.chk h0)
theorem strOf_g {n : Nat} (hn : 1 ≤ n) {S : List Sty} (hl : S.length ≤ 1000) : GA ck.cst ck.fs n 11 [.lst (S.map syD)] = .ok (.lst ((S.map strS).map stD)) := (GA_at (d := d_stretches_of) rfl (by omega) _).trans (stretchesOf_ok hl)
theorem nights_g {n : Nat} (hn : 5 ≤ n) {S : List Sty} {R now : Int} (hl : S.length ≤ 1000) (st : StY S R now) (h0 : 0 ≤ now) (hR : 0 ≤ R) : GA ck.cst ck.fs n 12 [.lst (S.map syD), .int R, .int now] = fulR S R now :=
  (GA_at (d := d_check_nights) rfl (by omega) _).trans (chkNights_ok hl st h0 hR (strOf_g (by omega) hl) (fuller_g (by omega) (by rw [List.length_map]; exact hl) R now) (.inr rfl))
theorem byFirst_g {n : Nat} (hn : 1 ≤ n) {S : List Sty} (hl : S.length ≤ 1000) : GA ck.cst ck.fs n 13 [.lst (S.map syD)] = .ok (.lst ((ordS S).map fun i => .int (i : Nat))) := (GA_at (d := d_by_first) rfl (by omega) _).trans (byFirst_ok hl)
theorem freeRoom_g {n : Nat} (hn : 1 ≤ n) {S : List Sty} (hl : S.length ≤ 1000) {l : List Nat} (hl2 : l.length ≤ 1000) (q : Nat → Option Int) (t : Int) (hne : freeL l (busyS S q t) ≠ []) : ∃ r, r ∈ freeL l (busyS S q t) ∧ GA ck.cst ck.fs n 14 [.lst (S.map syD), foD S.length q, .lst (l.map fun i => D.int (i : Nat)), .int t] = .ok (.int (r : Nat)) :=
  (freeRoom_ok hl hl2 hne).imp fun _ z => ⟨z.1, (GA_at (d := d_free_room) rfl (by omega) _).trans z.2⟩
theorem seated_g {n : Nat} (hn : 6 ≤ n) {S : List Sty} {R : Nat} {now : Int} (hl : S.length ≤ 1000) (hR : R ≤ 1000) (st : StY S R now) (h0 : 0 ≤ now) (nf : fulY S R now = none) : ∃ p, VpS S R p ∧ GA ck.cst ck.fs n 15 [.lst (S.map syD), .int (R : Nat), .int now] = .ok (fnD S.length p) :=
  (seated_ok hl hR st nf (chkS_g (by omega) hl st h0) ((nights_g (by omega) hl st h0 (by omega) ).trans (by unfold fulR; rw [nf])) (byFirst_g (by omega) hl) (fun q t hne => freeRoom_g (by omega) hl (by rw [List.length_range]; omega) q t hne)).imp fun _ z => ⟨z.1, (GA_at (d := d_seated) rfl (by omega) _).trans z.2⟩
theorem seatedX_g {n : Nat} (hn : 6 ≤ n) {S : List Sty} {R now v : Int} (hl : S.length ≤ 1000) (st : StY S R now) (h0 : 0 ≤ now) (hR : 0 ≤ R) (nf : fulY S R now = some v) : GA ck.cst ck.fs n 15 [.lst (S.map syD), .int R, .int now] = refV "TooFull" "night" (.int v) := (GA_at (d := d_seated) rfl (by omega) _).trans (seatedX_ok (chkS_g (by omega) hl st h0) ((nights_g (by omega) hl st h0 hR).trans (by unfold fulR; rw [nf]; rfl)))
theorem isPlan_g {n : Nat} (hn : 5 ≤ n) {S : List Sty} {R now : Int} (hl : S.length ≤ 1000) (st : StY S R now) (h0 : 0 ≤ now) {d : D} (hd : kn d = true) (he : ∀ ds, d = .lst ds → ∀ x ∈ ds, kn x = true) : GA ck.cst ck.fs n 16 [.lst (S.map syD), .int R, .int now, d] = .ok (.bl (planB S R d)) :=
  (GA_at (d := d_is_plan) rfl (by omega) _).trans (isPlan_ok hl st (chkS_g (by omega) hl st h0) (fun d h => whole_g (by omega) d h) (fun a b => meets_g (by omega) a b) hd he)
theorem part_g {n : Nat} (hn : 2 ≤ n) {ns : List Int} : PartG (GA ck.cst ck.fs n) 18 (S ns) := fun i k m h0 h1 hk hk1 hm => by
  obtain ⟨n, rfl⟩ : ∃ m, n = m + 2 := ⟨n - 2, by omega⟩
  exact part_ok (T := csts) (G := GA ck.cst ck.fs (n + 1)) (jc := 17) (cell_ok (T := csts) (G := GA ck.cst ck.fs n) h0 (by omega)) h0 (by omega) hk (by omega) hm
theorem wholeL_g {n : Nat} (hn : 1 ≤ n) (d : D) (h : kn d = true) : GA ck.cst ck.fs n 19 [d] = .ok (.bl (isI d)) := (GA_at (d := d__law_whole) rfl hn _).trans (whl (nm := "is_whole") (x := "thing") h)
theorem full_g {n : Nat} (hn : 1 ≤ n) {S : List Sty} (R now : Int) (hl : S.length ≤ 1000) : GA ck.cst ck.fs n 22 [.lst (S.map syD), .int R, .int now] = .ok (oD (fulY S R now)) := (GA_at (d := d__law_full) rfl (by omega) _).trans (fulG_ok (ns := d__law_full.ns) rfl hl)
theorem numbers_g {n : Nat} (hn : 3 ≤ n) (ns : List Int) : ∃ R now : Int, (0 ≤ R ∧ R ≤ 12) ∧ (0 ≤ now ∧ now < 400) ∧ GA ck.cst ck.fs n 23 [S ns] = .ok (.tup [.int R, .int now]) := by
  obtain ⟨R, now, a, b, c⟩ := numbersL_ok (T := ck.cst) (part_g (n := n - 1) (by omega) (ns := ns))
  exact ⟨R, now, a, b, (GA_at (d := d__law_numbers) rfl (by omega) _).trans c⟩
theorem stay_g {n : Nat} (hn : 3 ≤ n) {ns : List Int} {i m now : Int} (hi : 0 ≤ i) (hi1 : i < 2 ^ 30) (hm : 0 ≤ m) (hm1 : m < 4) (h0 : 0 ≤ now) (h1 : now < 400) : ∃ x, NoY now x ∧ GA ck.cst ck.fs n 20 [S ns, .int i, .int 0, .int m, .int now] = .ok (syD x) := by
  obtain ⟨x, hx, e⟩ := styG_ok (T := ck.cst) (ns := d__law_stay.ns) (a1 := 3) (a2 := 9) (a3 := 30) (a4 := 150) (b1 := 2) (b2 := 6) (b3 := 30) (b4 := 200) (jp := 18) rfl (by decide) (by decide) (part_g (n := n - 1) (by omega) (ns := ns)) hi hi1 (Int.le_refl 0) (by decide) hm hm1 h0 h1
  exact ⟨x, hx, (GA_at (d := d__law_stay) rfl (by omega) _).trans e⟩
theorem guest_g {n : Nat} (hn : 3 ≤ n) {ns : List Int} {i k room now : Int} (hi : 0 ≤ i) (hi1 : i < 2 ^ 30) (hk : 0 ≤ k) (hk1 : k < 1000) (h0 : 0 ≤ now) (h1 : now < 400) : ∃ x : Sty, HoY now x ∧ x.2.2 = some room ∧ GA ck.cst ck.fs n 21 [S ns, .int i, .int k, .int now, .int room] = .ok (syD x) := by
  obtain ⟨x, hx, h2, e⟩ := gstG_ok (T := ck.cst) (ns := d__law_guest.ns) (a1 := 2) (a2 := 9) (a3 := 60) (jp := 18) (room := room) rfl (by decide) (part_g (n := n - 1) (by omega) (ns := ns)) hi hi1 hk hk1 h0 h1
  exact ⟨x, hx, h2, (GA_at (d := d__law_guest) rfl (by omega) _).trans e⟩
theorem stays_g {n : Nat} (hn : 4 ≤ n) {ns : List Int} {R : Nat} {now : Int} {M : Nat} (hM : M ≤ 24) (hR1 : R ≤ 100) (h0 : 0 ≤ now) (h1 : now < 400) : ∃ S1 : List Sty, StY S1 R now ∧ S1.length ≤ M ∧ GA ck.cst ck.fs n 24 [S ns, .int (R : Nat), .int now, .int (M : Nat)] = .ok (.lst (S1.map syD)) := by
  obtain ⟨S1, a, b, e⟩ := staysL_ok (T := ck.cst) hM (part_g (n := n - 1) (by omega) (ns := ns)) hR1 h0 h1 (fun k room hk hk1 => guest_g (by omega) (by decide) (by decide) hk hk1 h0 h1) (fun i m hi hi1 hm hm1 => stay_g (by omega) hi (by omega) hm hm1 h0 h1) (fun S hl => full_g (by omega) R now hl)
  exact ⟨S1, a, b, (GA_at (d := d__law_stays) rfl (by omega) _).trans e⟩
theorem rightL_g {n : Nat} (hn : 2 ≤ n) {S : List Sty} {R : Int} (hl : S.length ≤ 1000) {d : D} (hd : kn d = true) (he : ∀ ds, d = .lst ds → ∀ x ∈ ds, kn x = true) : GA ck.cst ck.fs n 25 [d, .lst (S.map syD), .int R] = .ok (.bl (planB S R d)) :=
  (GA_at (d := d__law_right) rfl (by omega) _).trans (rightL_ok hl (fun d h => wholeL_g (by omega) d h) hd he)

theorem lk : ck.cst.lookup ("" : Str) = none := rfl
theorem strL_g {n : Nat} (hn : 2 ≤ n) {d : D} (h : Th d) : GA ck.cst ck.fs n 26 [d] = .ok (.bl (strL d)) := (GA_at (d := d__law_stretch) rfl (by omega) _).trans (strL_ok (fun d h => wholeL_g (by omega) d h) h)
theorem good_g {n : Nat} (hn : 3 ≤ n) {d : D} (h : Th d) (R now : Int) : GA ck.cst ck.fs n 27 [d, .int R, .int now] = .ok (.bl (stayB R now d)) := (GA_at (d := d__law_good) rfl (by omega) _).trans (goodL_ok (strL_g (by omega) h) (fun d h => wholeL_g (by omega) d h) h R now)
theorem odd_g {n : Nat} (hn : 3 ≤ n) {ns : List Int} {i R now : Int} (hi : 0 ≤ i) (hi1 : i < 2 ^ 30) (hR : 0 ≤ R) (hR1 : R ≤ 100) (h0 : 0 ≤ now) (h1 : now < 400) : ∃ d, Os d ∧ GA ck.cst ck.fs n 29 [S ns, .int i, .int R, .int now] = .ok d :=
  (oddS_ok (part_g (n := n - 1) (by omega) (ns := ns)) hi hi1 hR hR1 h0 h1).imp fun _ z => ⟨z.1, (GA_at (d := d__law_odd) rfl (by omega) _).trans z.2⟩
/-- what is told of an outcome -/
def toldV (w : Str) (v : Int) : D := .tup [.str w, .int v]
def dueV (x : PL.R D) (ful : Option Int) : D := match x with
  | .ok _ => (match ful with
    | some t => toldV "full" t
    | none => toldV "told" 0)
  | .ex (.ex c [_, .int v]) => if c = "NoStay" then toldV "stay" v else toldV "taken" v
  | _ => .non
theorem due_g {n : Nat} (hn : 4 ≤ n) {ds : List D} {R now : Int} (hl : ds.length ≤ 1000) (hd : ∀ d ∈ ds, Th d) {x : PL.R D} {ful : Option Int} (hx : chkS R now 0 [] ds = x) (hf : x = .ok .non → GA ck.cst ck.fs (n - 1) 22 [.lst ds, .int R, .int now] = .ok (oD ful)) :
    GA ck.cst ck.fs n 28 [.lst ds, .int R, .int now] = .ok (dueV x ful) := by
  rw [GA_at (d := d__law_due) rfl (by omega)]
  refine eq_run (r := [some (.lst ds), some (.int R), some (.int now), none, none, none]) rfl rfl ?_
  unfold d__law_due
  simp (disch := ((try simp only [List.length_map, List.length_range, List.length_append, List.length_cons, List.length_nil, List.length_replicate, List.length_take, List.length_drop, List.length_set]); omega)) only [s_kit, s2_kit, u_kit, sset_kit, lrev_kit, callk_kit, forq_kit, wg_kit, e_kit, es_kit, wo_kit, wu_kit, seq_kit, tg_kit, wat_kit, wq_kit, wl_kit, nx_kit, wn_kit, wa_kit, wi_kit, turn_kit, wipeE, List.set, PL.R.bind_okN, PL.R.bind_no, PL.R.bind_ex, List.append_nil, List.nil_append, List.cons_append, sub_rngI, sub_I, rng_getD, Option.isNone_none, Option.isNone_some, Option.isSome_none, Option.isSome_some, siz, rngN, rngI, rng_t, app_l, ins_l, slc_toI, slc_fromI, if_t, if_f, dec_t, dec_f, List.any_cons, List.any_nil, if_true, if_false, Bool.false_eq_true, decide_true, decide_false, Bool.not_true, Bool.not_false, Bool.and_true, Bool.true_and, Bool.and_false, Bool.false_and, Bool.or_true, Bool.true_or, Bool.or_false, Bool.false_or, eq_self, not_true_eq_false, not_false_eq_true, Option.some.injEq, reduceCtorEq, Int.toNat_natCast, Int.reduceToNat, tn_kit, nc_kit, Int.natCast_add, List.length_map, List.length_range, List.length_append, List.length_cons, List.length_nil, Nat.reduceAdd, Int.reduceAdd, Int.reduceSub, Int.reduceMul, Int.reduceNeg, Int.zero_add, Int.add_zero, Int.sub_zero, Nat.zero_add, ]
  refine wp_forN (fun k r => ∃ (tk : List (Option Int)) (x4 : Option D), r = [some (.lst ds), some (.int R), some (.int now), some (.lst (tk.map oD)), x4, none] ∧ tk.length ≤ k ∧ chkS R now k (tk.filterMap _root_.id) (ds.drop k) = x) ⟨[], _, rfl, Nat.le_refl _, hx⟩ ?_ ?_
  · intro k hk r hI
    obtain ⟨tk, x4, hr, lt, ec⟩ := hI
    subst hr
    have ed := List.drop_eq_getElem_cons hk
    have sd := sub_D (xs := ds) (i := (k : Nat)) (by omega) (by omega)
    rw [Int.toNat_natCast, List.getD_eq_getElem?_getD, List.getElem?_eq_getElem hk] at sd
    have sd : subD (.lst ds) (.int (k : Nat)) = .ok ds[k] := sd
    have hm : ds[k] ∈ ds := List.getElem_mem hk
    generalize ds[k] = d at *
    rw [ed, chkS_cons] at ec
    have gd := good_g (n := n - 1) (by omega) (hd d hm) R now
    cases q : stayB R now d with
    | false =>
      rw [q] at gd ec
      have ec : refV "NoStay" "at" (.int (k : Nat)) = x := ec
      simp (disch := ((try simp only [List.length_map, List.length_range, List.length_append, List.length_cons, List.length_nil, List.length_replicate, List.length_take, List.length_drop, List.length_set]); omega)) only [s_kit, s2_kit, u_kit, sset_kit, lrev_kit, callk_kit, forq_kit, wg_kit, e_kit, es_kit, wo_kit, wu_kit, seq_kit, tg_kit, wat_kit, wq_kit, wl_kit, nx_kit, wn_kit, wa_kit, wi_kit, turn_kit, wipeE, List.set, PL.R.bind_okN, PL.R.bind_no, PL.R.bind_ex, List.append_nil, List.nil_append, List.cons_append, sub_rngI, sub_I, rng_getD, Option.isNone_none, Option.isNone_some, Option.isSome_none, Option.isSome_some, siz, rngN, rngI, rng_t, app_l, ins_l, slc_toI, slc_fromI, if_t, if_f, dec_t, dec_f, List.any_cons, List.any_nil, if_true, if_false, Bool.false_eq_true, decide_true, decide_false, Bool.not_true, Bool.not_false, Bool.and_true, Bool.true_and, Bool.and_false, Bool.false_and, Bool.or_true, Bool.true_or, Bool.or_false, Bool.false_or, eq_self, not_true_eq_false, not_false_eq_true, Option.some.injEq, reduceCtorEq, Int.toNat_natCast, Int.reduceToNat, tn_kit, nc_kit, Int.natCast_add, List.length_map, List.length_range, List.length_append, List.length_cons, List.length_nil, Nat.reduceAdd, Int.reduceAdd, Int.reduceSub, Int.reduceMul, Int.reduceNeg, Int.zero_add, Int.add_zero, Int.sub_zero, Nat.zero_add, sd, gd]
      rw [← ec]
      show PL.R.ok (toldV "stay" (k : Nat)) = .ok (if ("NoStay" : Str) = "NoStay" then toldV "stay" (k : Nat) else toldV "taken" (k : Nat))
      rw [if_pos rfl]
    | true =>
      rw [q, if_pos rfl] at ec
      rw [q] at gd
      obtain ⟨s, rfl, a1, a4⟩ := stay_sty q
      rcases a4 with ⟨e, a4⟩ | ⟨v, e, ⟨a4, a5⟩, a6, a7⟩
      · have er : roomOf (syD s) = .non := by obtain ⟨f, b, o⟩ := s; cases e; rfl
        rw [er] at ec
        have ec : chkS R now (k + 1) (tk.filterMap _root_.id) (ds.drop (k + 1)) = x := ec
        have s2 : subD (syD s) (.int 2) = .ok .non := by rw [sy_kit.2.2, e]; rfl
        simp (disch := ((try simp only [List.length_map, List.length_range, List.length_append, List.length_cons, List.length_nil, List.length_replicate, List.length_take, List.length_drop, List.length_set]); omega)) only [s_kit, s2_kit, u_kit, sset_kit, lrev_kit, callk_kit, forq_kit, wg_kit, e_kit, es_kit, wo_kit, wu_kit, seq_kit, tg_kit, wat_kit, wq_kit, wl_kit, nx_kit, wn_kit, wa_kit, wi_kit, turn_kit, wipeE, List.set, PL.R.bind_okN, PL.R.bind_no, PL.R.bind_ex, List.append_nil, List.nil_append, List.cons_append, sub_rngI, sub_I, rng_getD, Option.isNone_none, Option.isNone_some, Option.isSome_none, Option.isSome_some, siz, rngN, rngI, rng_t, app_l, ins_l, slc_toI, slc_fromI, if_t, if_f, dec_t, dec_f, List.any_cons, List.any_nil, if_true, if_false, Bool.false_eq_true, decide_true, decide_false, Bool.not_true, Bool.not_false, Bool.and_true, Bool.true_and, Bool.and_false, Bool.false_and, Bool.or_true, Bool.true_or, Bool.or_false, Bool.false_or, eq_self, not_true_eq_false, not_false_eq_true, Option.some.injEq, reduceCtorEq, Int.toNat_natCast, Int.reduceToNat, tn_kit, nc_kit, Int.natCast_add, List.length_map, List.length_range, List.length_append, List.length_cons, List.length_nil, Nat.reduceAdd, Int.reduceAdd, Int.reduceSub, Int.reduceMul, Int.reduceNeg, Int.zero_add, Int.add_zero, Int.sub_zero, Nat.zero_add, sd, gd, s2]
        refine ⟨tk ++ [none], _, by rw [List.map_append]; rfl, by rw [List.length_append, List.length_singleton]; omega, ?_⟩
        rw [List.filterMap_append]
        show chkS R now (k + 1) (tk.filterMap _root_.id ++ []) _ = x
        rw [List.append_nil]; exact ec
      · have er : roomOf (syD s) = .int v := by obtain ⟨f, b, o⟩ := s; cases e; rfl
        rw [er] at ec
        have ec : (if v ∈ tk.filterMap _root_.id then refV "Taken" "room" (.int v) else chkS R now (k + 1) (tk.filterMap _root_.id ++ [v]) (ds.drop (k + 1))) = x := ec
        have s2 : subD (syD s) (.int 2) = .ok (.int v) := by rw [sy_kit.2.2, e]; rfl
        have mm : (tk.any fun z => decide (z = some v)) = decide (v ∈ tk.filterMap _root_.id) := by
          rw [Bool.eq_iff_iff, List.any_eq_true, decide_eq_true_eq, List.mem_filterMap]
          constructor
          · rintro ⟨z, hz, e⟩; exact ⟨z, hz, of_decide_eq_true e⟩
          · rintro ⟨z, hz, e⟩; exact ⟨z, hz, decide_eq_true e⟩
        by_cases m : v ∈ tk.filterMap _root_.id
        · rw [if_pos m] at ec
          simp (disch := ((try simp only [List.length_map, List.length_range, List.length_append, List.length_cons, List.length_nil, List.length_replicate, List.length_take, List.length_drop, List.length_set]); omega)) only [s_kit, s2_kit, u_kit, sset_kit, lrev_kit, callk_kit, forq_kit, wg_kit, e_kit, es_kit, wo_kit, wu_kit, seq_kit, tg_kit, wat_kit, wq_kit, wl_kit, nx_kit, wn_kit, wa_kit, wi_kit, turn_kit, wipeE, List.set, PL.R.bind_okN, PL.R.bind_no, PL.R.bind_ex, List.append_nil, List.nil_append, List.cons_append, sub_rngI, sub_I, rng_getD, Option.isNone_none, Option.isNone_some, Option.isSome_none, Option.isSome_some, siz, rngN, rngI, rng_t, app_l, ins_l, slc_toI, slc_fromI, if_t, if_f, dec_t, dec_f, List.any_cons, List.any_nil, if_true, if_false, Bool.false_eq_true, decide_true, decide_false, Bool.not_true, Bool.not_false, Bool.and_true, Bool.true_and, Bool.and_false, Bool.false_and, Bool.or_true, Bool.true_or, Bool.or_false, Bool.false_or, eq_self, not_true_eq_false, not_false_eq_true, Option.some.injEq, reduceCtorEq, Int.toNat_natCast, Int.reduceToNat, tn_kit, nc_kit, Int.natCast_add, List.length_map, List.length_range, List.length_append, List.length_cons, List.length_nil, Nat.reduceAdd, Int.reduceAdd, Int.reduceSub, Int.reduceMul, Int.reduceNeg, Int.zero_add, Int.add_zero, Int.sub_zero, Nat.zero_add, sd, gd, s2, in_oD, mm, m]
          rw [← ec]
          show PL.R.ok (toldV "taken" v) = .ok (if ("Taken" : Str) = "NoStay" then toldV "stay" v else toldV "taken" v)
          rw [if_neg (by decide)]
        · rw [if_neg m] at ec
          simp (disch := ((try simp only [List.length_map, List.length_range, List.length_append, List.length_cons, List.length_nil, List.length_replicate, List.length_take, List.length_drop, List.length_set]); omega)) only [s_kit, s2_kit, u_kit, sset_kit, lrev_kit, callk_kit, forq_kit, wg_kit, e_kit, es_kit, wo_kit, wu_kit, seq_kit, tg_kit, wat_kit, wq_kit, wl_kit, nx_kit, wn_kit, wa_kit, wi_kit, turn_kit, wipeE, List.set, PL.R.bind_okN, PL.R.bind_no, PL.R.bind_ex, List.append_nil, List.nil_append, List.cons_append, sub_rngI, sub_I, rng_getD, Option.isNone_none, Option.isNone_some, Option.isSome_none, Option.isSome_some, siz, rngN, rngI, rng_t, app_l, ins_l, slc_toI, slc_fromI, if_t, if_f, dec_t, dec_f, List.any_cons, List.any_nil, if_true, if_false, Bool.false_eq_true, decide_true, decide_false, Bool.not_true, Bool.not_false, Bool.and_true, Bool.true_and, Bool.and_false, Bool.false_and, Bool.or_true, Bool.true_or, Bool.or_false, Bool.false_or, eq_self, not_true_eq_false, not_false_eq_true, Option.some.injEq, reduceCtorEq, Int.toNat_natCast, Int.reduceToNat, tn_kit, nc_kit, Int.natCast_add, List.length_map, List.length_range, List.length_append, List.length_cons, List.length_nil, Nat.reduceAdd, Int.reduceAdd, Int.reduceSub, Int.reduceMul, Int.reduceNeg, Int.zero_add, Int.add_zero, Int.sub_zero, Nat.zero_add, sd, gd, s2, in_oD, mm, m]
          refine ⟨tk ++ [some v], _, by rw [List.map_append]; rfl, by rw [List.length_append, List.length_singleton]; omega, ?_⟩
          rw [List.filterMap_append]
          exact ec
  · intro r hI
    obtain ⟨tk, x4, hr, lt, ec⟩ := hI
    subst hr
    rw [List.drop_length] at ec
    have hf := hf ec.symm
    have ec : PL.R.ok D.non = x := ec
    rw [← ec]
    simp (disch := ((try simp only [List.length_map, List.length_range, List.length_append, List.length_cons, List.length_nil, List.length_replicate, List.length_take, List.length_drop, List.length_set]); omega)) only [s_kit, s2_kit, u_kit, sset_kit, lrev_kit, callk_kit, forq_kit, wg_kit, e_kit, es_kit, wo_kit, wu_kit, seq_kit, tg_kit, wat_kit, wq_kit, wl_kit, nx_kit, wn_kit, wa_kit, wi_kit, turn_kit, wipeE, List.set, PL.R.bind_okN, PL.R.bind_no, PL.R.bind_ex, List.append_nil, List.nil_append, List.cons_append, sub_rngI, sub_I, rng_getD, Option.isNone_none, Option.isNone_some, Option.isSome_none, Option.isSome_some, siz, rngN, rngI, rng_t, app_l, ins_l, slc_toI, slc_fromI, if_t, if_f, dec_t, dec_f, List.any_cons, List.any_nil, if_true, if_false, Bool.false_eq_true, decide_true, decide_false, Bool.not_true, Bool.not_false, Bool.and_true, Bool.true_and, Bool.and_false, Bool.false_and, Bool.or_true, Bool.true_or, Bool.or_false, Bool.false_or, eq_self, not_true_eq_false, not_false_eq_true, Option.some.injEq, reduceCtorEq, Int.toNat_natCast, Int.reduceToNat, tn_kit, nc_kit, Int.natCast_add, List.length_map, List.length_range, List.length_append, List.length_cons, List.length_nil, Nat.reduceAdd, Int.reduceAdd, Int.reduceSub, Int.reduceMul, Int.reduceNeg, Int.zero_add, Int.add_zero, Int.sub_zero, Nat.zero_add, hf, non_oD]
    cases ful with
    | none => simp (disch := ((try simp only [List.length_map, List.length_range, List.length_append, List.length_cons, List.length_nil, List.length_replicate, List.length_take, List.length_drop, List.length_set]); omega)) only [s_kit, s2_kit, u_kit, sset_kit, lrev_kit, callk_kit, forq_kit, wg_kit, e_kit, es_kit, wo_kit, wu_kit, seq_kit, tg_kit, wat_kit, wq_kit, wl_kit, nx_kit, wn_kit, wa_kit, wi_kit, turn_kit, wipeE, List.set, PL.R.bind_okN, PL.R.bind_no, PL.R.bind_ex, List.append_nil, List.nil_append, List.cons_append, sub_rngI, sub_I, rng_getD, Option.isNone_none, Option.isNone_some, Option.isSome_none, Option.isSome_some, siz, rngN, rngI, rng_t, app_l, ins_l, slc_toI, slc_fromI, if_t, if_f, dec_t, dec_f, List.any_cons, List.any_nil, if_true, if_false, Bool.false_eq_true, decide_true, decide_false, Bool.not_true, Bool.not_false, Bool.and_true, Bool.true_and, Bool.and_false, Bool.false_and, Bool.or_true, Bool.true_or, Bool.or_false, Bool.false_or, eq_self, not_true_eq_false, not_false_eq_true, Option.some.injEq, reduceCtorEq, Int.toNat_natCast, Int.reduceToNat, tn_kit, nc_kit, Int.natCast_add, List.length_map, List.length_range, List.length_append, List.length_cons, List.length_nil, Nat.reduceAdd, Int.reduceAdd, Int.reduceSub, Int.reduceMul, Int.reduceNeg, Int.zero_add, Int.add_zero, Int.sub_zero, Nat.zero_add, ]; rfl
    | some t => simp (disch := ((try simp only [List.length_map, List.length_range, List.length_append, List.length_cons, List.length_nil, List.length_replicate, List.length_take, List.length_drop, List.length_set]); omega)) only [s_kit, s2_kit, u_kit, sset_kit, lrev_kit, callk_kit, forq_kit, wg_kit, e_kit, es_kit, wo_kit, wu_kit, seq_kit, tg_kit, wat_kit, wq_kit, wl_kit, nx_kit, wn_kit, wa_kit, wi_kit, turn_kit, wipeE, List.set, PL.R.bind_okN, PL.R.bind_no, PL.R.bind_ex, List.append_nil, List.nil_append, List.cons_append, sub_rngI, sub_I, rng_getD, Option.isNone_none, Option.isNone_some, Option.isSome_none, Option.isSome_some, siz, rngN, rngI, rng_t, app_l, ins_l, slc_toI, slc_fromI, if_t, if_f, dec_t, dec_f, List.any_cons, List.any_nil, if_true, if_false, Bool.false_eq_true, decide_true, decide_false, Bool.not_true, Bool.not_false, Bool.and_true, Bool.true_and, Bool.and_false, Bool.false_and, Bool.or_true, Bool.true_or, Bool.or_false, Bool.false_or, eq_self, not_true_eq_false, not_false_eq_true, Option.some.injEq, reduceCtorEq, Int.toNat_natCast, Int.reduceToNat, tn_kit, nc_kit, Int.natCast_add, List.length_map, List.length_range, List.length_append, List.length_cons, List.length_nil, Nat.reduceAdd, Int.reduceAdd, Int.reduceSub, Int.reduceMul, Int.reduceNeg, Int.zero_add, Int.add_zero, Int.sub_zero, Nat.zero_add, ]; rfl
def catV : PL.R D → D
  | .ex (.ex c [_, .int v]) => if c = "NoStay" then toldV "stay" v else if c = "Taken" then toldV "taken" v else toldV "full" v
  | _ => toldV "told" 0
/-- what may come out -/
def Oc (y : PL.R D) : Prop := (∃ d, y = .ok d) ∨ (∃ v : Int, y = refV "NoStay" "at" (.int v)) ∨ (∃ v : Int, y = refV "Taken" "room" (.int v)) ∨ ∃ v : Int, y = refV "TooFull" "night" (.int v)
theorem caught_g {n : Nat} (hn : 2 ≤ n) {ds : List D} {R now w : Int} (hl : ds.length ≤ 1000) {y : PL.R D} (oc : Oc y) (h : (w = 0 ∧ GA ck.cst ck.fs (n - 1) 15 [.lst ds, .int R, .int now] = y) ∨ (w = 1 ∧ GA ck.cst ck.fs (n - 1) 16 [.lst ds, .int R, .int now, .lst (ds.map fun _ => .int 0)] = y)) :
    GA ck.cst ck.fs n 31 [.int w, .lst ds, .int R, .int now] = .ok (catV y) := by
  rw [GA_at (d := d__law_caught) rfl (by omega)]
  refine eq_run (r := [some (.int w), some (.lst ds), some (.int R), some (.int now), none, none, none]) rfl rfl ?_
  unfold d__law_caught
  rw [(s_kit _ _).1]
  refine wp_try ?_
  have key : evSs ck.cst (GA ck.cst ck.fs (n - 1)) (.cons (.ife (.cmp .Eq (.var 0) (.con (.int 0))) (.cons (.expr (.call 15 (.cons (.var 1) (.cons (.var 2) (.cons (.var 3) .nil))) [] false)) .nil)
        (.cons (.expr (.call 16 (.cons (.var 1) (.cons (.var 2) (.cons (.var 3) (.cons (.comp [6] (.con (.int 0)) (.nm 6) (.ex (.var 1)) .none) .nil)))) [] false)) .nil)) .nil) [some (.int w), some (.lst ds), some (.int R), some (.int now), none, none, none] =
      y.bind fun _ => .ok (.nx [some (.int w), some (.lst ds), some (.int R), some (.int now), none, none, none]) := by
    rcases h with ⟨rfl, h⟩ | ⟨rfl, h⟩
    · simp (disch := ((try simp only [List.length_map, List.length_range, List.length_append, List.length_cons, List.length_nil, List.length_replicate, List.length_take, List.length_drop, List.length_set]); omega)) only [s_kit, s2_kit, u_kit, sset_kit, lrev_kit, callk_kit, forq_kit, wg_kit, e_kit, es_kit, wo_kit, wu_kit, seq_kit, tg_kit, wat_kit, wq_kit, wl_kit, nx_kit, wn_kit, wa_kit, wi_kit, turn_kit, wipeE, List.set, PL.R.bind_okN, PL.R.bind_no, PL.R.bind_ex, List.append_nil, List.nil_append, List.cons_append, sub_rngI, sub_I, rng_getD, Option.isNone_none, Option.isNone_some, Option.isSome_none, Option.isSome_some, siz, rngN, rngI, rng_t, app_l, ins_l, slc_toI, slc_fromI, if_t, if_f, dec_t, dec_f, List.any_cons, List.any_nil, if_true, if_false, Bool.false_eq_true, decide_true, decide_false, Bool.not_true, Bool.not_false, Bool.and_true, Bool.true_and, Bool.and_false, Bool.false_and, Bool.or_true, Bool.true_or, Bool.or_false, Bool.false_or, eq_self, not_true_eq_false, not_false_eq_true, Option.some.injEq, reduceCtorEq, Int.toNat_natCast, Int.reduceToNat, tn_kit, nc_kit, Int.natCast_add, List.length_map, List.length_range, List.length_append, List.length_cons, List.length_nil, Nat.reduceAdd, Int.reduceAdd, Int.reduceSub, Int.reduceMul, Int.reduceNeg, Int.zero_add, Int.add_zero, Int.sub_zero, Nat.zero_add, h]
    · have cm : compD (turnF ck.cst (GA ck.cst ck.fs (n - 1)) [6] (.con (.int 0)) (.nm 6) .none [some (.int 1), some (.lst ds), some (.int R), some (.int now), none, none, none]) ds = .ok (ds.map fun _ => .int 0) := by
        have := map_any (f := turnF ck.cst (GA ck.cst ck.fs (n - 1)) [6] (.con (.int 0)) (.nm 6) .none [some (.int 1), some (.lst ds), some (.int R), some (.int now), none, none, none]) (i := _root_.id) (g := fun _ : D => D.int 0) (xs := ds) fun x _ => by
          show turnF _ _ _ _ _ _ _ x = _
          simp (disch := ((try simp only [List.length_map, List.length_range, List.length_append, List.length_cons, List.length_nil, List.length_replicate, List.length_take, List.length_drop, List.length_set]); omega)) only [s_kit, s2_kit, u_kit, sset_kit, lrev_kit, callk_kit, forq_kit, wg_kit, e_kit, es_kit, wo_kit, wu_kit, seq_kit, tg_kit, wat_kit, wq_kit, wl_kit, nx_kit, wn_kit, wa_kit, wi_kit, turn_kit, wipeE, List.set, PL.R.bind_okN, PL.R.bind_no, PL.R.bind_ex, List.append_nil, List.nil_append, List.cons_append, sub_rngI, sub_I, rng_getD, Option.isNone_none, Option.isNone_some, Option.isSome_none, Option.isSome_some, siz, rngN, rngI, rng_t, app_l, ins_l, slc_toI, slc_fromI, if_t, if_f, dec_t, dec_f, List.any_cons, List.any_nil, if_true, if_false, Bool.false_eq_true, decide_true, decide_false, Bool.not_true, Bool.not_false, Bool.and_true, Bool.true_and, Bool.and_false, Bool.false_and, Bool.or_true, Bool.true_or, Bool.or_false, Bool.false_or, eq_self, not_true_eq_false, not_false_eq_true, Option.some.injEq, reduceCtorEq, Int.toNat_natCast, Int.reduceToNat, tn_kit, nc_kit, Int.natCast_add, List.length_map, List.length_range, List.length_append, List.length_cons, List.length_nil, Nat.reduceAdd, Int.reduceAdd, Int.reduceSub, Int.reduceMul, Int.reduceNeg, Int.zero_add, Int.add_zero, Int.sub_zero, Nat.zero_add, ]
        rw [List.map_id] at this
        exact this
      simp (disch := ((try simp only [List.length_map, List.length_range, List.length_append, List.length_cons, List.length_nil, List.length_replicate, List.length_take, List.length_drop, List.length_set]); omega)) only [s_kit, s2_kit, u_kit, sset_kit, lrev_kit, callk_kit, forq_kit, wg_kit, e_kit, es_kit, wo_kit, wu_kit, seq_kit, tg_kit, wat_kit, wq_kit, wl_kit, nx_kit, wn_kit, wa_kit, wi_kit, turn_kit, wipeE, List.set, PL.R.bind_okN, PL.R.bind_no, PL.R.bind_ex, List.append_nil, List.nil_append, List.cons_append, sub_rngI, sub_I, rng_getD, Option.isNone_none, Option.isNone_some, Option.isSome_none, Option.isSome_some, siz, rngN, rngI, rng_t, app_l, ins_l, slc_toI, slc_fromI, if_t, if_f, dec_t, dec_f, List.any_cons, List.any_nil, if_true, if_false, Bool.false_eq_true, decide_true, decide_false, Bool.not_true, Bool.not_false, Bool.and_true, Bool.true_and, Bool.and_false, Bool.false_and, Bool.or_true, Bool.true_or, Bool.or_false, Bool.false_or, eq_self, not_true_eq_false, not_false_eq_true, Option.some.injEq, reduceCtorEq, Int.toNat_natCast, Int.reduceToNat, tn_kit, nc_kit, Int.natCast_add, List.length_map, List.length_range, List.length_append, List.length_cons, List.length_nil, Nat.reduceAdd, Int.reduceAdd, Int.reduceSub, Int.reduceMul, Int.reduceNeg, Int.zero_add, Int.add_zero, Int.sub_zero, Nat.zero_add, cm, h]
  rw [key]
  have c0 : ∀ a b c, u2D .cnt (.lst [.bl a, .bl b, .bl c]) (.bl true) = .ok (.int ((([D.bl a, .bl b, .bl c].filter fun z => deq z (.bl true)).length : Nat) : Int)) := fun _ _ _ => rfl
  have d1 : (([D.bl true, .bl false, .bl false].filter fun z => deq z (.bl true)).length : Nat) = 1 := rfl
  have d2 : (([D.bl false, .bl true, .bl false].filter fun z => deq z (.bl true)).length : Nat) = 1 := rfl
  have d3 : (([D.bl false, .bl false, .bl true].filter fun z => deq z (.bl true)).length : Nat) = 1 := rfl
  rcases oc with ⟨d, rfl⟩ | ⟨v, rfl⟩ | ⟨v, rfl⟩ | ⟨v, rfl⟩
  · simp (disch := ((try simp only [List.length_map, List.length_range, List.length_append, List.length_cons, List.length_nil, List.length_replicate, List.length_take, List.length_drop, List.length_set]); omega)) only [s_kit, s2_kit, u_kit, sset_kit, lrev_kit, callk_kit, forq_kit, wg_kit, e_kit, es_kit, wo_kit, wu_kit, seq_kit, tg_kit, wat_kit, wq_kit, wl_kit, nx_kit, wn_kit, wa_kit, wi_kit, turn_kit, wipeE, List.set, PL.R.bind_okN, PL.R.bind_no, PL.R.bind_ex, List.append_nil, List.nil_append, List.cons_append, sub_rngI, sub_I, rng_getD, Option.isNone_none, Option.isNone_some, Option.isSome_none, Option.isSome_some, siz, rngN, rngI, rng_t, app_l, ins_l, slc_toI, slc_fromI, if_t, if_f, dec_t, dec_f, List.any_cons, List.any_nil, if_true, if_false, Bool.false_eq_true, decide_true, decide_false, Bool.not_true, Bool.not_false, Bool.and_true, Bool.true_and, Bool.and_false, Bool.false_and, Bool.or_true, Bool.true_or, Bool.or_false, Bool.false_or, eq_self, not_true_eq_false, not_false_eq_true, Option.some.injEq, reduceCtorEq, Int.toNat_natCast, Int.reduceToNat, tn_kit, nc_kit, Int.natCast_add, List.length_map, List.length_range, List.length_append, List.length_cons, List.length_nil, Nat.reduceAdd, Int.reduceAdd, Int.reduceSub, Int.reduceMul, Int.reduceNeg, Int.zero_add, Int.add_zero, Int.sub_zero, Nat.zero_add, ]
    rfl
  · unfold refV
    have m1 : mtc "InnError" (.ex "NoStay" [.str "at", .int v]) = true := by show isSub "NoStay" "InnError" = true; decide
    have i1 : isSub "NoStay" "NoStay" = true := by decide
    have i2 : isSub "NoStay" "Taken" = false := by decide
    have i3 : isSub "NoStay" "TooFull" = false := by decide
    have i4 : isSub "NoStay" "ValueError" = true := by decide
    simp (disch := ((try simp only [List.length_map, List.length_range, List.length_append, List.length_cons, List.length_nil, List.length_replicate, List.length_take, List.length_drop, List.length_set]); omega)) only [s_kit, s2_kit, u_kit, sset_kit, lrev_kit, callk_kit, forq_kit, wg_kit, e_kit, es_kit, wo_kit, wu_kit, seq_kit, tg_kit, wat_kit, wq_kit, wl_kit, nx_kit, wn_kit, wa_kit, wi_kit, turn_kit, wipeE, List.set, PL.R.bind_okN, PL.R.bind_no, PL.R.bind_ex, List.append_nil, List.nil_append, List.cons_append, sub_rngI, sub_I, rng_getD, Option.isNone_none, Option.isNone_some, Option.isSome_none, Option.isSome_some, siz, rngN, rngI, rng_t, app_l, ins_l, slc_toI, slc_fromI, if_t, if_f, dec_t, dec_f, List.any_cons, List.any_nil, if_true, if_false, Bool.false_eq_true, decide_true, decide_false, Bool.not_true, Bool.not_false, Bool.and_true, Bool.true_and, Bool.and_false, Bool.false_and, Bool.or_true, Bool.true_or, Bool.or_false, Bool.false_or, eq_self, not_true_eq_false, not_false_eq_true, Option.some.injEq, reduceCtorEq, Int.toNat_natCast, Int.reduceToNat, tn_kit, nc_kit, Int.natCast_add, List.length_map, List.length_range, List.length_append, List.length_cons, List.length_nil, Nat.reduceAdd, Int.reduceAdd, Int.reduceSub, Int.reduceMul, Int.reduceNeg, Int.zero_add, Int.add_zero, Int.sub_zero, Nat.zero_add, m1]
    refine ⟨Fl.rt (toldV "stay" v), fun a b => ?_, ?_⟩
    · simp (disch := ((try simp only [List.length_map, List.length_range, List.length_append, List.length_cons, List.length_nil, List.length_replicate, List.length_take, List.length_drop, List.length_set]); omega)) only [s_kit, s2_kit, u_kit, sset_kit, lrev_kit, callk_kit, forq_kit, wg_kit, e_kit, es_kit, wo_kit, wu_kit, seq_kit, tg_kit, wat_kit, wq_kit, wl_kit, nx_kit, wn_kit, wa_kit, wi_kit, turn_kit, wipeE, List.set, PL.R.bind_okN, PL.R.bind_no, PL.R.bind_ex, List.append_nil, List.nil_append, List.cons_append, sub_rngI, sub_I, rng_getD, Option.isNone_none, Option.isNone_some, Option.isSome_none, Option.isSome_some, siz, rngN, rngI, rng_t, app_l, ins_l, slc_toI, slc_fromI, if_t, if_f, dec_t, dec_f, List.any_cons, List.any_nil, if_true, if_false, Bool.false_eq_true, decide_true, decide_false, Bool.not_true, Bool.not_false, Bool.and_true, Bool.true_and, Bool.and_false, Bool.false_and, Bool.or_true, Bool.true_or, Bool.or_false, Bool.false_or, eq_self, not_true_eq_false, not_false_eq_true, Option.some.injEq, reduceCtorEq, Int.toNat_natCast, Int.reduceToNat, tn_kit, nc_kit, Int.natCast_add, List.length_map, List.length_range, List.length_append, List.length_cons, List.length_nil, Nat.reduceAdd, Int.reduceAdd, Int.reduceSub, Int.reduceMul, Int.reduceNeg, Int.zero_add, Int.add_zero, Int.sub_zero, Nat.zero_add, exIs_f lk, i1, i2, i3, i4, c0, d1, exAt_f lk]
      rfl
    · show PL.R.ok (toldV "stay" v) = PL.R.ok (if ("NoStay" : Str) = "NoStay" then toldV "stay" v else if ("NoStay" : Str) = "Taken" then toldV "taken" v else toldV "full" v)
      rw [if_pos rfl]
  · unfold refV
    have m1 : mtc "InnError" (.ex "Taken" [.str "room", .int v]) = true := by show isSub "Taken" "InnError" = true; decide
    have i1 : isSub "Taken" "NoStay" = false := by decide
    have i2 : isSub "Taken" "Taken" = true := by decide
    have i3 : isSub "Taken" "TooFull" = false := by decide
    have i4 : isSub "Taken" "ValueError" = true := by decide
    simp (disch := ((try simp only [List.length_map, List.length_range, List.length_append, List.length_cons, List.length_nil, List.length_replicate, List.length_take, List.length_drop, List.length_set]); omega)) only [s_kit, s2_kit, u_kit, sset_kit, lrev_kit, callk_kit, forq_kit, wg_kit, e_kit, es_kit, wo_kit, wu_kit, seq_kit, tg_kit, wat_kit, wq_kit, wl_kit, nx_kit, wn_kit, wa_kit, wi_kit, turn_kit, wipeE, List.set, PL.R.bind_okN, PL.R.bind_no, PL.R.bind_ex, List.append_nil, List.nil_append, List.cons_append, sub_rngI, sub_I, rng_getD, Option.isNone_none, Option.isNone_some, Option.isSome_none, Option.isSome_some, siz, rngN, rngI, rng_t, app_l, ins_l, slc_toI, slc_fromI, if_t, if_f, dec_t, dec_f, List.any_cons, List.any_nil, if_true, if_false, Bool.false_eq_true, decide_true, decide_false, Bool.not_true, Bool.not_false, Bool.and_true, Bool.true_and, Bool.and_false, Bool.false_and, Bool.or_true, Bool.true_or, Bool.or_false, Bool.false_or, eq_self, not_true_eq_false, not_false_eq_true, Option.some.injEq, reduceCtorEq, Int.toNat_natCast, Int.reduceToNat, tn_kit, nc_kit, Int.natCast_add, List.length_map, List.length_range, List.length_append, List.length_cons, List.length_nil, Nat.reduceAdd, Int.reduceAdd, Int.reduceSub, Int.reduceMul, Int.reduceNeg, Int.zero_add, Int.add_zero, Int.sub_zero, Nat.zero_add, m1]
    refine ⟨Fl.rt (toldV "taken" v), fun a b => ?_, ?_⟩
    · simp (disch := ((try simp only [List.length_map, List.length_range, List.length_append, List.length_cons, List.length_nil, List.length_replicate, List.length_take, List.length_drop, List.length_set]); omega)) only [s_kit, s2_kit, u_kit, sset_kit, lrev_kit, callk_kit, forq_kit, wg_kit, e_kit, es_kit, wo_kit, wu_kit, seq_kit, tg_kit, wat_kit, wq_kit, wl_kit, nx_kit, wn_kit, wa_kit, wi_kit, turn_kit, wipeE, List.set, PL.R.bind_okN, PL.R.bind_no, PL.R.bind_ex, List.append_nil, List.nil_append, List.cons_append, sub_rngI, sub_I, rng_getD, Option.isNone_none, Option.isNone_some, Option.isSome_none, Option.isSome_some, siz, rngN, rngI, rng_t, app_l, ins_l, slc_toI, slc_fromI, if_t, if_f, dec_t, dec_f, List.any_cons, List.any_nil, if_true, if_false, Bool.false_eq_true, decide_true, decide_false, Bool.not_true, Bool.not_false, Bool.and_true, Bool.true_and, Bool.and_false, Bool.false_and, Bool.or_true, Bool.true_or, Bool.or_false, Bool.false_or, eq_self, not_true_eq_false, not_false_eq_true, Option.some.injEq, reduceCtorEq, Int.toNat_natCast, Int.reduceToNat, tn_kit, nc_kit, Int.natCast_add, List.length_map, List.length_range, List.length_append, List.length_cons, List.length_nil, Nat.reduceAdd, Int.reduceAdd, Int.reduceSub, Int.reduceMul, Int.reduceNeg, Int.zero_add, Int.add_zero, Int.sub_zero, Nat.zero_add, exIs_f lk, i1, i2, i3, i4, c0, d2, exAt_f lk]
      rfl
    · show PL.R.ok (toldV "taken" v) = PL.R.ok (if ("Taken" : Str) = "NoStay" then toldV "stay" v else if ("Taken" : Str) = "Taken" then toldV "taken" v else toldV "full" v)
      (rw [if_neg (by decide), if_pos rfl])
  · unfold refV
    have m1 : mtc "InnError" (.ex "TooFull" [.str "night", .int v]) = true := by show isSub "TooFull" "InnError" = true; decide
    have i1 : isSub "TooFull" "NoStay" = false := by decide
    have i2 : isSub "TooFull" "Taken" = false := by decide
    have i3 : isSub "TooFull" "TooFull" = true := by decide
    have i4 : isSub "TooFull" "ValueError" = true := by decide
    simp (disch := ((try simp only [List.length_map, List.length_range, List.length_append, List.length_cons, List.length_nil, List.length_replicate, List.length_take, List.length_drop, List.length_set]); omega)) only [s_kit, s2_kit, u_kit, sset_kit, lrev_kit, callk_kit, forq_kit, wg_kit, e_kit, es_kit, wo_kit, wu_kit, seq_kit, tg_kit, wat_kit, wq_kit, wl_kit, nx_kit, wn_kit, wa_kit, wi_kit, turn_kit, wipeE, List.set, PL.R.bind_okN, PL.R.bind_no, PL.R.bind_ex, List.append_nil, List.nil_append, List.cons_append, sub_rngI, sub_I, rng_getD, Option.isNone_none, Option.isNone_some, Option.isSome_none, Option.isSome_some, siz, rngN, rngI, rng_t, app_l, ins_l, slc_toI, slc_fromI, if_t, if_f, dec_t, dec_f, List.any_cons, List.any_nil, if_true, if_false, Bool.false_eq_true, decide_true, decide_false, Bool.not_true, Bool.not_false, Bool.and_true, Bool.true_and, Bool.and_false, Bool.false_and, Bool.or_true, Bool.true_or, Bool.or_false, Bool.false_or, eq_self, not_true_eq_false, not_false_eq_true, Option.some.injEq, reduceCtorEq, Int.toNat_natCast, Int.reduceToNat, tn_kit, nc_kit, Int.natCast_add, List.length_map, List.length_range, List.length_append, List.length_cons, List.length_nil, Nat.reduceAdd, Int.reduceAdd, Int.reduceSub, Int.reduceMul, Int.reduceNeg, Int.zero_add, Int.add_zero, Int.sub_zero, Nat.zero_add, m1]
    refine ⟨Fl.rt (toldV "full" v), fun a b => ?_, ?_⟩
    · simp (disch := ((try simp only [List.length_map, List.length_range, List.length_append, List.length_cons, List.length_nil, List.length_replicate, List.length_take, List.length_drop, List.length_set]); omega)) only [s_kit, s2_kit, u_kit, sset_kit, lrev_kit, callk_kit, forq_kit, wg_kit, e_kit, es_kit, wo_kit, wu_kit, seq_kit, tg_kit, wat_kit, wq_kit, wl_kit, nx_kit, wn_kit, wa_kit, wi_kit, turn_kit, wipeE, List.set, PL.R.bind_okN, PL.R.bind_no, PL.R.bind_ex, List.append_nil, List.nil_append, List.cons_append, sub_rngI, sub_I, rng_getD, Option.isNone_none, Option.isNone_some, Option.isSome_none, Option.isSome_some, siz, rngN, rngI, rng_t, app_l, ins_l, slc_toI, slc_fromI, if_t, if_f, dec_t, dec_f, List.any_cons, List.any_nil, if_true, if_false, Bool.false_eq_true, decide_true, decide_false, Bool.not_true, Bool.not_false, Bool.and_true, Bool.true_and, Bool.and_false, Bool.false_and, Bool.or_true, Bool.true_or, Bool.or_false, Bool.false_or, eq_self, not_true_eq_false, not_false_eq_true, Option.some.injEq, reduceCtorEq, Int.toNat_natCast, Int.reduceToNat, tn_kit, nc_kit, Int.natCast_add, List.length_map, List.length_range, List.length_append, List.length_cons, List.length_nil, Nat.reduceAdd, Int.reduceAdd, Int.reduceSub, Int.reduceMul, Int.reduceNeg, Int.zero_add, Int.add_zero, Int.sub_zero, Nat.zero_add, exIs_f lk, i1, i2, i3, i4, c0, d3, exAt_f lk]
      rfl
    · show PL.R.ok (toldV "full" v) = PL.R.ok (if ("TooFull" : Str) = "NoStay" then toldV "stay" v else if ("TooFull" : Str) = "Taken" then toldV "taken" v else toldV "full" v)
      rw [if_neg (by decide), if_neg (by decide)]
/-- stays, odd ones among them -/
def Ls (ds : List D) : Prop := (∀ d ∈ ds, Os d) ∧ ds.length ≤ 24
theorem Ls.sf {ds : List D} (h : Ls ds) : sfQ 60 (.lst ds) = true := by
  show (plainD 60 (.lst ds) || ds.all (sfQ 59)) = true
  rw [Bool.or_eq_true]
  exact .inr (List.all_eq_true.mpr fun x hx => (h.1 x hx).2)
theorem ne_sf {ds : List D} (h : sfQ 60 (.lst ds) = true) : cmpD .NotEq (.lst ds) (.lst ds) = .ok false := by
  have e := eqQ_self 60 (.lst ds) h
  by_cases p : plainD 60 (.lst ds) = true
  · exact cmp_selfN p
  · have p : plainD 60 (.lst ds) = false := by simpa using p
    show (if sclD (.lst ds) (.lst ds) || (plainD 60 (.lst ds) && plainD 60 (.lst ds)) then _ else neR (.lst ds) (.lst ds)) = _
    rw [show sclD (.lst ds) (.lst ds) = false from rfl, p]
    show (match eqQ 60 (.lst ds) (.lst ds) with
      | some b => PL.R.ok (!b)
      | none => .no) = _
    rw [e]; rfl
theorem told_plain (w : Str) (h : PyData.strOk w = true) (v : Int) : plainD 60 (toldV w v) = true := by
  show ([_, _] : List D).all (plainD 59) = true
  rw [List.all_cons, show plainD 59 (.str w) = true from h]; rfl
theorem told_g {n : Nat} (hn : 8 ≤ n) {ds : List D} {R : Nat} {now : Int} (h : Ls ds) (hR : R ≤ 12) (h0 : 0 ≤ now) : GA ck.cst ck.fs n 32 [.lst ds, .int (R : Nat), .int now] = .ok (.bl true) := by
  have th : ∀ d ∈ ds, Th d := fun d hd => (h.1 d hd).1
  have l1 := h.2
  have c2 := cmp_sf h.sf
  have c3 := ne_sf h.sf
  have wh : ∀ v : Int, GA ck.cst ck.fs (n - 1) 19 [.int v] = .ok (.bl true) := fun v => wholeL_g (by omega) (.int v) rfl
  have ck1 := chk_g (n := n - 2) (by omega) (ds := ds) (by omega) th R now
  have str : ∀ a b : Str, cmpD .Eq (.str a) (.str b) = .ok (a == b) := fun _ _ => rfl
  have ts0 : ∀ w v, subD (toldV w v) (.int 0) = .ok (.str w) := fun _ _ => rfl
  have ts1 : ∀ w v, subD (toldV w v) (.int 1) = .ok (.int v) := fun _ _ => rfl
  -- one outcome of the stays, and the other one of the nights
  have fin : ∀ (w : Str) (v : Int) (w2 : Str) (v2 : Int), PyData.strOk w = true → PyData.strOk w2 = true → GA ck.cst ck.fs (n - 1) 28 [.lst ds, .int (R : Nat), .int now] = .ok (toldV w v) → GA ck.cst ck.fs (n - 1) 31 [.int 0, .lst ds, .int (R : Nat), .int now] = .ok (toldV w v) →
      GA ck.cst ck.fs (n - 1) 31 [.int 1, .lst ds, .int (R : Nat), .int now] = .ok (toldV w2 v2) → ((w == "full") = true ∧ w2 = "told" ∧ v2 = 0) ∨ ((w == "full") = false ∧ w2 = w ∧ v2 = v) → GA ck.cst ck.fs n 32 [.lst ds, .int (R : Nat), .int now] = .ok (.bl true) := by
    intro w v w2 v2 s1 s2 e1 e2 e3 hw
    rw [GA_at (d := d__law_told) rfl (by omega)]
    refine eq_run (r := [some (.lst ds), some (.int (R : Nat)), some (.int now), none, none, none]) rfl rfl ?_
    unfold d__law_told
    have ct := cmp_selfN (told_plain w s1 v)
    have ct2 := cmp_self (told_plain w2 s2 v2)
    rcases hw with ⟨h1, rfl, rfl⟩ | ⟨h1, rfl, rfl⟩
    · have tt : D.tup [.str "told", .int 0] = toldV "told" 0 := rfl
      simp (disch := ((try simp only [List.length_map, List.length_range, List.length_append, List.length_cons, List.length_nil, List.length_replicate, List.length_take, List.length_drop, List.length_set]); omega)) only [s_kit, s2_kit, u_kit, sset_kit, lrev_kit, callk_kit, forq_kit, wg_kit, e_kit, es_kit, wo_kit, wu_kit, seq_kit, tg_kit, wat_kit, wq_kit, wl_kit, nx_kit, wn_kit, wa_kit, wi_kit, turn_kit, wipeE, List.set, PL.R.bind_okN, PL.R.bind_no, PL.R.bind_ex, List.append_nil, List.nil_append, List.cons_append, sub_rngI, sub_I, rng_getD, Option.isNone_none, Option.isNone_some, Option.isSome_none, Option.isSome_some, siz, rngN, rngI, rng_t, app_l, ins_l, slc_toI, slc_fromI, if_t, if_f, dec_t, dec_f, List.any_cons, List.any_nil, if_true, if_false, Bool.false_eq_true, decide_true, decide_false, Bool.not_true, Bool.not_false, Bool.and_true, Bool.true_and, Bool.and_false, Bool.false_and, Bool.or_true, Bool.true_or, Bool.or_false, Bool.false_or, eq_self, not_true_eq_false, not_false_eq_true, Option.some.injEq, reduceCtorEq, Int.toNat_natCast, Int.reduceToNat, tn_kit, nc_kit, Int.natCast_add, List.length_map, List.length_range, List.length_append, List.length_cons, List.length_nil, Nat.reduceAdd, Int.reduceAdd, Int.reduceSub, Int.reduceMul, Int.reduceNeg, Int.zero_add, Int.add_zero, Int.sub_zero, Nat.zero_add, e1, e2, ct, ts1, wh, c3, ts0, str, h1, e3, tt, ct2, c2]
    · simp (disch := ((try simp only [List.length_map, List.length_range, List.length_append, List.length_cons, List.length_nil, List.length_replicate, List.length_take, List.length_drop, List.length_set]); omega)) only [s_kit, s2_kit, u_kit, sset_kit, lrev_kit, callk_kit, forq_kit, wg_kit, e_kit, es_kit, wo_kit, wu_kit, seq_kit, tg_kit, wat_kit, wq_kit, wl_kit, nx_kit, wn_kit, wa_kit, wi_kit, turn_kit, wipeE, List.set, PL.R.bind_okN, PL.R.bind_no, PL.R.bind_ex, List.append_nil, List.nil_append, List.cons_append, sub_rngI, sub_I, rng_getD, Option.isNone_none, Option.isNone_some, Option.isSome_none, Option.isSome_some, siz, rngN, rngI, rng_t, app_l, ins_l, slc_toI, slc_fromI, if_t, if_f, dec_t, dec_f, List.any_cons, List.any_nil, if_true, if_false, Bool.false_eq_true, decide_true, decide_false, Bool.not_true, Bool.not_false, Bool.and_true, Bool.true_and, Bool.and_false, Bool.false_and, Bool.or_true, Bool.true_or, Bool.or_false, Bool.false_or, eq_self, not_true_eq_false, not_false_eq_true, Option.some.injEq, reduceCtorEq, Int.toNat_natCast, Int.reduceToNat, tn_kit, nc_kit, Int.natCast_add, List.length_map, List.length_range, List.length_append, List.length_cons, List.length_nil, Nat.reduceAdd, Int.reduceAdd, Int.reduceSub, Int.reduceMul, Int.reduceNeg, Int.zero_add, Int.add_zero, Int.sub_zero, Nat.zero_add, e1, e2, ct, ts1, wh, c3, ts0, str, h1, e3, ct2, c2]
  rcases chk_cases (R := (R : Int)) (now := now) ds 0 [] with e | ⟨j, e⟩ | ⟨v, e⟩
  · obtain ⟨T, rfl, st, _⟩ := (chkS_iff h0).mp e
    rw [List.length_map] at l1
    have fu := full_g (n := n - 2) (by omega) (R : Int) now (S := T) (by omega)
    have g1 := due_g (n := n - 1) (by omega) (by rw [List.length_map]; omega) th e (fun _ => fu)
    have pz : ∀ ds', D.lst ((T.map syD).map fun _ => D.int 0) = .lst ds' → ∀ x ∈ ds', kn x = true := fun ds' e x hx => by
      cases e
      obtain ⟨_, _, rfl⟩ := List.mem_map.mp hx
      rfl
    have p1 := isPlan_g (n := n - 2) (by omega) (S := T) (R := (R : Int)) (by omega) st h0 (d := .lst ((T.map syD).map fun _ => .int 0)) rfl pz
    have g3 := caught_g (n := n - 1) (by omega) (w := 1) (by rw [List.length_map]; omega) (.inl ⟨_, rfl⟩) (.inr ⟨rfl, p1⟩)
    cases ef : fulY T R now with
    | none =>
      obtain ⟨p, vp, es⟩ := seated_g (n := n - 2) (by omega) (S := T) (by omega) (by omega) st h0 ef
      have g2 := caught_g (n := n - 1) (by omega) (w := 0) (by rw [List.length_map]; omega) (.inl ⟨_, rfl⟩) (.inl ⟨rfl, es⟩)
      rw [ef] at g1
      exact fin "told" 0 "told" 0 (by decide +kernel) (by decide +kernel) g1 g2 g3 (.inr ⟨by decide, rfl, rfl⟩)
    | some v =>
      have es := seatedX_g (n := n - 2) (by omega) (S := T) (by omega) st h0 (by omega) ef
      have g2 := caught_g (n := n - 1) (by omega) (w := 0) (by rw [List.length_map]; omega) (.inr (.inr (.inr ⟨v, rfl⟩))) (.inl ⟨rfl, es⟩)
      rw [ef] at g1
      have g2 : GA ck.cst ck.fs (n - 1) 31 [.int 0, .lst (T.map syD), .int (R : Nat), .int now] = .ok (if ("TooFull" : Str) = "NoStay" then toldV "stay" v else if ("TooFull" : Str) = "Taken" then toldV "taken" v else toldV "full" v) := g2
      rw [if_neg (by decide), if_neg (by decide)] at g2
      exact fin "full" v "told" 0 (by decide +kernel) (by decide +kernel) g1 g2 g3 (.inl ⟨by decide, rfl, rfl⟩)
  · rw [e] at ck1
    have g1 := due_g (n := n - 1) (by omega) (by omega) th e (ful := none) (fun z => by cases z)
    have es : GA ck.cst ck.fs (n - 2) 15 [.lst ds, .int (R : Nat), .int now] = refV "NoStay" "at" (.int (j : Nat)) := (GA_at (d := d_seated) rfl (by omega) _).trans (seatedX1_ok ((chk_g (n := n - 2 - 1) (by omega) (by omega) th R now).trans e))
    have ep : GA ck.cst ck.fs (n - 2) 16 [.lst ds, .int (R : Nat), .int now, .lst (ds.map fun _ => .int 0)] = refV "NoStay" "at" (.int (j : Nat)) := (GA_at (d := d_is_plan) rfl (by omega) _).trans (isPlanX_ok ((chk_g (n := n - 2 - 1) (by omega) (by omega) th R now).trans e))
    have g2 := caught_g (n := n - 1) (by omega) (w := 0) (by omega) (.inr (.inl ⟨_, rfl⟩)) (.inl ⟨rfl, es⟩)
    have g3 := caught_g (n := n - 1) (by omega) (w := 1) (by omega) (.inr (.inl ⟨_, rfl⟩)) (.inr ⟨rfl, ep⟩)
    exact fin "stay" j "stay" j (by decide +kernel) (by decide +kernel) g1 g2 g3 (.inr ⟨by decide, rfl, rfl⟩)
  · rw [e] at ck1
    have g1 := due_g (n := n - 1) (by omega) (by omega) th e (ful := none) (fun z => by cases z)
    have g1 : GA ck.cst ck.fs (n - 1) 28 [.lst ds, .int (R : Nat), .int now] = .ok (if ("Taken" : Str) = "NoStay" then toldV "stay" v else toldV "taken" v) := g1
    rw [if_neg (by decide)] at g1
    have es : GA ck.cst ck.fs (n - 2) 15 [.lst ds, .int (R : Nat), .int now] = refV "Taken" "room" (.int v) := (GA_at (d := d_seated) rfl (by omega) _).trans (seatedX1_ok ((chk_g (n := n - 2 - 1) (by omega) (by omega) th R now).trans e))
    have ep : GA ck.cst ck.fs (n - 2) 16 [.lst ds, .int (R : Nat), .int now, .lst (ds.map fun _ => .int 0)] = refV "Taken" "room" (.int v) := (GA_at (d := d_is_plan) rfl (by omega) _).trans (isPlanX_ok ((chk_g (n := n - 2 - 1) (by omega) (by omega) th R now).trans e))
    have g2 := caught_g (n := n - 1) (by omega) (w := 0) (by omega) (.inr (.inr (.inl ⟨_, rfl⟩))) (.inl ⟨rfl, es⟩)
    have g3 := caught_g (n := n - 1) (by omega) (w := 1) (by omega) (.inr (.inr (.inl ⟨_, rfl⟩))) (.inr ⟨rfl, ep⟩)
    have g2 : GA ck.cst ck.fs (n - 1) 31 [.int 0, .lst ds, .int (R : Nat), .int now] = .ok (if ("Taken" : Str) = "NoStay" then toldV "stay" v else if ("Taken" : Str) = "Taken" then toldV "taken" v else toldV "full" v) := g2
    have g3 : GA ck.cst ck.fs (n - 1) 31 [.int 1, .lst ds, .int (R : Nat), .int now] = .ok (if ("Taken" : Str) = "NoStay" then toldV "stay" v else if ("Taken" : Str) = "Taken" then toldV "taken" v else toldV "full" v) := g3
    rw [if_neg (by decide), if_pos rfl] at g2 g3
    exact fin "taken" v "taken" v (by decide +kernel) (by decide +kernel) g1 g2 g3 (.inr ⟨by decide, rfl, rfl⟩)
theorem put_g {n : Nat} (hn : 4 ≤ n) {ns : List Int} {i R now : Int} {ds : List D} (h : Ls ds) (hi : 0 ≤ i) (hi1 : i < 2 ^ 30) (hR : 0 ≤ R) (hR1 : R ≤ 100) (h0 : 0 ≤ now) (h1 : now < 400) : ∃ d, (∃ es, Ls es ∧ d = .lst es) ∧ GA ck.cst ck.fs n 30 [S ns, .int i, .lst ds, .int R, .int now] = .ok d := by
  have hp := part_g (n := n - 1) (by omega) (ns := ns)
  have l1 := h.2
  obtain ⟨a, a0, a1, ea⟩ := hp i 4 ((ds.length : Nat) + 1) hi hi1 (by omega) (by omega) (by omega)
  obtain ⟨b, b0, b1, eb⟩ := hp i 5 2 hi hi1 (by omega) (by omega) (by omega)
  obtain ⟨d, hd, ed⟩ := odd_g (n := n - 1) (by omega) (ns := ns) hi hi1 hR hR1 h0 h1
  refine Wp.ok ?_
  rw [GA_at (d := d__law_put) rfl (by omega)]
  refine wp_run (r := [some (S ns), some (.int i), some (.lst ds), some (.int R), some (.int now), none, none, none]) rfl rfl ?_
  unfold d__law_put
  by_cases q : a < ds.length
  · by_cases q2 : b = 1
    · have sl := set_l (v := d) a0 q
      simp (disch := ((try simp only [List.length_map, List.length_range, List.length_append, List.length_cons, List.length_nil, List.length_replicate, List.length_take, List.length_drop, List.length_set]); omega)) only [s_kit, s2_kit, u_kit, sset_kit, lrev_kit, callk_kit, forq_kit, wg_kit, e_kit, es_kit, wo_kit, wu_kit, seq_kit, tg_kit, wat_kit, wq_kit, wl_kit, nx_kit, wn_kit, wa_kit, wi_kit, turn_kit, wipeE, List.set, PL.R.bind_okN, PL.R.bind_no, PL.R.bind_ex, List.append_nil, List.nil_append, List.cons_append, sub_rngI, sub_I, rng_getD, Option.isNone_none, Option.isNone_some, Option.isSome_none, Option.isSome_some, siz, rngN, rngI, rng_t, app_l, ins_l, slc_toI, slc_fromI, if_t, if_f, dec_t, dec_f, List.any_cons, List.any_nil, if_true, if_false, Bool.false_eq_true, decide_true, decide_false, Bool.not_true, Bool.not_false, Bool.and_true, Bool.true_and, Bool.and_false, Bool.false_and, Bool.or_true, Bool.true_or, Bool.or_false, Bool.false_or, eq_self, not_true_eq_false, not_false_eq_true, Option.some.injEq, reduceCtorEq, Int.toNat_natCast, Int.reduceToNat, tn_kit, nc_kit, Int.natCast_add, List.length_map, List.length_range, List.length_append, List.length_cons, List.length_nil, Nat.reduceAdd, Int.reduceAdd, Int.reduceSub, Int.reduceMul, Int.reduceNeg, Int.zero_add, Int.add_zero, Int.sub_zero, Nat.zero_add, ea, ed, eb, q2, sl]
      refine ⟨_, ⟨fun x hx => ?_, by rw [List.length_set]; omega⟩, rfl⟩
      rcases List.mem_or_eq_of_mem_set hx with z | z
      · exact h.1 x z
      · rw [z]; exact hd
    · by_cases q3 : ds.length < 24
      · simp (disch := ((try simp only [List.length_map, List.length_range, List.length_append, List.length_cons, List.length_nil, List.length_replicate, List.length_take, List.length_drop, List.length_set]); omega)) only [s_kit, s2_kit, u_kit, sset_kit, lrev_kit, callk_kit, forq_kit, wg_kit, e_kit, es_kit, wo_kit, wu_kit, seq_kit, tg_kit, wat_kit, wq_kit, wl_kit, nx_kit, wn_kit, wa_kit, wi_kit, turn_kit, wipeE, List.set, PL.R.bind_okN, PL.R.bind_no, PL.R.bind_ex, List.append_nil, List.nil_append, List.cons_append, sub_rngI, sub_I, rng_getD, Option.isNone_none, Option.isNone_some, Option.isSome_none, Option.isSome_some, siz, rngN, rngI, rng_t, app_l, ins_l, slc_toI, slc_fromI, if_t, if_f, dec_t, dec_f, List.any_cons, List.any_nil, if_true, if_false, Bool.false_eq_true, decide_true, decide_false, Bool.not_true, Bool.not_false, Bool.and_true, Bool.true_and, Bool.and_false, Bool.false_and, Bool.or_true, Bool.true_or, Bool.or_false, Bool.false_or, eq_self, not_true_eq_false, not_false_eq_true, Option.some.injEq, reduceCtorEq, Int.toNat_natCast, Int.reduceToNat, tn_kit, nc_kit, Int.natCast_add, List.length_map, List.length_range, List.length_append, List.length_cons, List.length_nil, Nat.reduceAdd, Int.reduceAdd, Int.reduceSub, Int.reduceMul, Int.reduceNeg, Int.zero_add, Int.add_zero, Int.sub_zero, Nat.zero_add, ea, ed, eb, q2]
        refine ⟨_, ⟨fun x hx => ?_, by rw [ins_len]; omega⟩, rfl⟩
        rcases List.mem_cons.mp ((ins_perm ds _ d).mem_iff.mp hx) with z | z
        · rw [z]; exact hd
        · exact h.1 x z
      · simp (disch := ((try simp only [List.length_map, List.length_range, List.length_append, List.length_cons, List.length_nil, List.length_replicate, List.length_take, List.length_drop, List.length_set]); omega)) only [s_kit, s2_kit, u_kit, sset_kit, lrev_kit, callk_kit, forq_kit, wg_kit, e_kit, es_kit, wo_kit, wu_kit, seq_kit, tg_kit, wat_kit, wq_kit, wl_kit, nx_kit, wn_kit, wa_kit, wi_kit, turn_kit, wipeE, List.set, PL.R.bind_okN, PL.R.bind_no, PL.R.bind_ex, List.append_nil, List.nil_append, List.cons_append, sub_rngI, sub_I, rng_getD, Option.isNone_none, Option.isNone_some, Option.isSome_none, Option.isSome_some, siz, rngN, rngI, rng_t, app_l, ins_l, slc_toI, slc_fromI, if_t, if_f, dec_t, dec_f, List.any_cons, List.any_nil, if_true, if_false, Bool.false_eq_true, decide_true, decide_false, Bool.not_true, Bool.not_false, Bool.and_true, Bool.true_and, Bool.and_false, Bool.false_and, Bool.or_true, Bool.true_or, Bool.or_false, Bool.false_or, eq_self, not_true_eq_false, not_false_eq_true, Option.some.injEq, reduceCtorEq, Int.toNat_natCast, Int.reduceToNat, tn_kit, nc_kit, Int.natCast_add, List.length_map, List.length_range, List.length_append, List.length_cons, List.length_nil, Nat.reduceAdd, Int.reduceAdd, Int.reduceSub, Int.reduceMul, Int.reduceNeg, Int.zero_add, Int.add_zero, Int.sub_zero, Nat.zero_add, ea, ed, eb, q2]
        exact ⟨_, h, rfl⟩
  · by_cases q3 : ds.length < 24
    · simp (disch := ((try simp only [List.length_map, List.length_range, List.length_append, List.length_cons, List.length_nil, List.length_replicate, List.length_take, List.length_drop, List.length_set]); omega)) only [s_kit, s2_kit, u_kit, sset_kit, lrev_kit, callk_kit, forq_kit, wg_kit, e_kit, es_kit, wo_kit, wu_kit, seq_kit, tg_kit, wat_kit, wq_kit, wl_kit, nx_kit, wn_kit, wa_kit, wi_kit, turn_kit, wipeE, List.set, PL.R.bind_okN, PL.R.bind_no, PL.R.bind_ex, List.append_nil, List.nil_append, List.cons_append, sub_rngI, sub_I, rng_getD, Option.isNone_none, Option.isNone_some, Option.isSome_none, Option.isSome_some, siz, rngN, rngI, rng_t, app_l, ins_l, slc_toI, slc_fromI, if_t, if_f, dec_t, dec_f, List.any_cons, List.any_nil, if_true, if_false, Bool.false_eq_true, decide_true, decide_false, Bool.not_true, Bool.not_false, Bool.and_true, Bool.true_and, Bool.and_false, Bool.false_and, Bool.or_true, Bool.true_or, Bool.or_false, Bool.false_or, eq_self, not_true_eq_false, not_false_eq_true, Option.some.injEq, reduceCtorEq, Int.toNat_natCast, Int.reduceToNat, tn_kit, nc_kit, Int.natCast_add, List.length_map, List.length_range, List.length_append, List.length_cons, List.length_nil, Nat.reduceAdd, Int.reduceAdd, Int.reduceSub, Int.reduceMul, Int.reduceNeg, Int.zero_add, Int.add_zero, Int.sub_zero, Nat.zero_add, ea, ed, eb]
      refine ⟨_, ⟨fun x hx => ?_, by rw [ins_len]; omega⟩, rfl⟩
      rcases List.mem_cons.mp ((ins_perm ds _ d).mem_iff.mp hx) with z | z
      · rw [z]; exact hd
      · exact h.1 x z
    · simp (disch := ((try simp only [List.length_map, List.length_range, List.length_append, List.length_cons, List.length_nil, List.length_replicate, List.length_take, List.length_drop, List.length_set]); omega)) only [s_kit, s2_kit, u_kit, sset_kit, lrev_kit, callk_kit, forq_kit, wg_kit, e_kit, es_kit, wo_kit, wu_kit, seq_kit, tg_kit, wat_kit, wq_kit, wl_kit, nx_kit, wn_kit, wa_kit, wi_kit, turn_kit, wipeE, List.set, PL.R.bind_okN, PL.R.bind_no, PL.R.bind_ex, List.append_nil, List.nil_append, List.cons_append, sub_rngI, sub_I, rng_getD, Option.isNone_none, Option.isNone_some, Option.isSome_none, Option.isSome_some, siz, rngN, rngI, rng_t, app_l, ins_l, slc_toI, slc_fromI, if_t, if_f, dec_t, dec_f, List.any_cons, List.any_nil, if_true, if_false, Bool.false_eq_true, decide_true, decide_false, Bool.not_true, Bool.not_false, Bool.and_true, Bool.true_and, Bool.and_false, Bool.false_and, Bool.or_true, Bool.true_or, Bool.or_false, Bool.false_or, eq_self, not_true_eq_false, not_false_eq_true, Option.some.injEq, reduceCtorEq, Int.toNat_natCast, Int.reduceToNat, tn_kit, nc_kit, Int.natCast_add, List.length_map, List.length_range, List.length_append, List.length_cons, List.length_nil, Nat.reduceAdd, Int.reduceAdd, Int.reduceSub, Int.reduceMul, Int.reduceNeg, Int.zero_add, Int.add_zero, Int.sub_zero, Nat.zero_add, ea, ed, eb]
      exact ⟨_, h, rfl⟩
theorem plain (ns : List Int) (h : ns.length ≤ 63) : GA ck.cst ck.fs 12 33 [.lst (ns.map .int)] = .ok (.bl true) := by
  obtain ⟨R, now, ⟨R0, R1⟩, ⟨n0, n1⟩, e1⟩ := numbers_g (n := 11) (by omega) ns
  obtain ⟨R, rfl⟩ := Int.eq_ofNat_of_zero_le R0
  obtain ⟨T, st, sl, e2⟩ := stays_g (n := 11) (by omega) (ns := ns) (R := R) (M := 22) (by omega) (by omega) n0 n1
  have e2 : GA ck.cst ck.fs 11 24 [S ns, .int (R : Nat), .int now, .int 22] = _ := e2
  have lt : Ls (T.map syD) := ⟨fun d hd => by
    obtain ⟨s, _, rfl⟩ := List.mem_map.mp hd
    refine ⟨syTh s, ?_⟩
    show (plainD 59 (syD s) || _) = true
    rw [sy_plain]; rfl, by rw [List.length_map]; omega⟩
  obtain ⟨_, ⟨a, la, rfl⟩, e3⟩ := put_g (n := 11) (by omega) (ns := ns) (i := 40) lt (by omega) (by omega) R0 (by omega) n0 n1
  obtain ⟨_, ⟨b, lb, rfl⟩, e4⟩ := put_g (n := 11) (by omega) (ns := ns) (i := 41) la (by omega) (by omega) R0 (by omega) n0 n1
  obtain ⟨_, ⟨c, lc, rfl⟩, e5⟩ := put_g (n := 11) (by omega) (ns := ns) (i := 42) lt (by omega) (by omega) R0 (by omega) n0 n1
  have tg := fun {ds : List D} (h : Ls ds) => told_g (n := 11) (by omega) (R := R) (now := now) h (by omega) n0
  rw [GA_at (d := d_law) rfl (by omega)]
  refine eq_run (r := [some (S ns), none, none, none, none, none, none]) rfl rfl ?_
  unfold d_law
  simp (disch := ((try simp only [List.length_map, List.length_range, List.length_append, List.length_cons, List.length_nil, List.length_replicate, List.length_take, List.length_drop, List.length_set]); omega)) only [s_kit, s2_kit, u_kit, sset_kit, lrev_kit, callk_kit, forq_kit, wg_kit, e_kit, es_kit, wo_kit, wu_kit, seq_kit, tg_kit, wat_kit, wq_kit, wl_kit, nx_kit, wn_kit, wa_kit, wi_kit, turn_kit, wipeE, List.set, PL.R.bind_okN, PL.R.bind_no, PL.R.bind_ex, List.append_nil, List.nil_append, List.cons_append, sub_rngI, sub_I, rng_getD, Option.isNone_none, Option.isNone_some, Option.isSome_none, Option.isSome_some, siz, rngN, rngI, rng_t, app_l, ins_l, slc_toI, slc_fromI, if_t, if_f, dec_t, dec_f, List.any_cons, List.any_nil, if_true, if_false, Bool.false_eq_true, decide_true, decide_false, Bool.not_true, Bool.not_false, Bool.and_true, Bool.true_and, Bool.and_false, Bool.false_and, Bool.or_true, Bool.true_or, Bool.or_false, Bool.false_or, eq_self, not_true_eq_false, not_false_eq_true, Option.some.injEq, reduceCtorEq, Int.toNat_natCast, Int.reduceToNat, tn_kit, nc_kit, Int.natCast_add, List.length_map, List.length_range, List.length_append, List.length_cons, List.length_nil, Nat.reduceAdd, Int.reduceAdd, Int.reduceSub, Int.reduceMul, Int.reduceNeg, Int.zero_add, Int.add_zero, Int.sub_zero, Nat.zero_add, e1, e2, e3, e4, e5]
  generalize hl : ([D.lst (T.map syD), D.lst b, D.lst a, D.lst c, D.lst (T.map syD)] : List D) = l
  refine wp_forL (fun d => ∃ ds, Ls ds ∧ d = .lst ds) (fun r => ∃ x, r = [some (S ns), some (.int (R : Nat)), some (.int now), some (.lst (T.map syD)), some (.lst a), some (.lst b), x]) ?_ ⟨_, rfl⟩ ?_ ?_
  · intro d hm
    rw [← hl] at hm
    (simp only [List.mem_cons, List.not_mem_nil, or_false] at hm)
    rcases hm with hm | hm | hm | hm | hm
    · exact ⟨_, lt, hm⟩
    · exact ⟨_, lb, hm⟩
    · exact ⟨_, la, hm⟩
    · exact ⟨_, lc, hm⟩
    · exact ⟨_, lt, hm⟩
  · intro d hd r hI
    obtain ⟨ds, hl, hd⟩ := hd
    obtain ⟨x, hr⟩ := hI
    subst hr
    subst hd
    simp (disch := ((try simp only [List.length_map, List.length_range, List.length_append, List.length_cons, List.length_nil, List.length_replicate, List.length_take, List.length_drop, List.length_set]); omega)) only [s_kit, s2_kit, u_kit, sset_kit, lrev_kit, callk_kit, forq_kit, wg_kit, e_kit, es_kit, wo_kit, wu_kit, seq_kit, tg_kit, wat_kit, wq_kit, wl_kit, nx_kit, wn_kit, wa_kit, wi_kit, turn_kit, wipeE, List.set, PL.R.bind_okN, PL.R.bind_no, PL.R.bind_ex, List.append_nil, List.nil_append, List.cons_append, sub_rngI, sub_I, rng_getD, Option.isNone_none, Option.isNone_some, Option.isSome_none, Option.isSome_some, siz, rngN, rngI, rng_t, app_l, ins_l, slc_toI, slc_fromI, if_t, if_f, dec_t, dec_f, List.any_cons, List.any_nil, if_true, if_false, Bool.false_eq_true, decide_true, decide_false, Bool.not_true, Bool.not_false, Bool.and_true, Bool.true_and, Bool.and_false, Bool.false_and, Bool.or_true, Bool.true_or, Bool.or_false, Bool.false_or, eq_self, not_true_eq_false, not_false_eq_true, Option.some.injEq, reduceCtorEq, Int.toNat_natCast, Int.reduceToNat, tn_kit, nc_kit, Int.natCast_add, List.length_map, List.length_range, List.length_append, List.length_cons, List.length_nil, Nat.reduceAdd, Int.reduceAdd, Int.reduceSub, Int.reduceMul, Int.reduceNeg, Int.zero_add, Int.add_zero, Int.sub_zero, Nat.zero_add, tg hl]
    exact ⟨_, rfl⟩
  · intro r hI
    obtain ⟨x, hr⟩ := hI
    subst hr
    simp (disch := ((try simp only [List.length_map, List.length_range, List.length_append, List.length_cons, List.length_nil, List.length_replicate, List.length_take, List.length_drop, List.length_set]); omega)) only [s_kit, s2_kit, u_kit, sset_kit, lrev_kit, callk_kit, forq_kit, wg_kit, e_kit, es_kit, wo_kit, wu_kit, seq_kit, tg_kit, wat_kit, wq_kit, wl_kit, nx_kit, wn_kit, wa_kit, wi_kit, turn_kit, wipeE, List.set, PL.R.bind_okN, PL.R.bind_no, PL.R.bind_ex, List.append_nil, List.nil_append, List.cons_append, sub_rngI, sub_I, rng_getD, Option.isNone_none, Option.isNone_some, Option.isSome_none, Option.isSome_some, siz, rngN, rngI, rng_t, app_l, ins_l, slc_toI, slc_fromI, if_t, if_f, dec_t, dec_f, List.any_cons, List.any_nil, if_true, if_false, Bool.false_eq_true, decide_true, decide_false, Bool.not_true, Bool.not_false, Bool.and_true, Bool.true_and, Bool.and_false, Bool.false_and, Bool.or_true, Bool.true_or, Bool.or_false, Bool.false_or, eq_self, not_true_eq_false, not_false_eq_true, Option.some.injEq, reduceCtorEq, Int.toNat_natCast, Int.reduceToNat, tn_kit, nc_kit, Int.natCast_add, List.length_map, List.length_range, List.length_append, List.length_cons, List.length_nil, Nat.reduceAdd, Int.reduceAdd, Int.reduceSub, Int.reduceMul, Int.reduceNeg, Int.zero_add, Int.add_zero, Int.sub_zero, Nat.zero_add, ]
end Law_nightbook_k32_stays_refused

namespace Law_nightbook_k32_stays_refused
open PL L2 PyProof.Rows PySem.Spec PySem
def top (i : Nat) : Stmt := PySem.Challenge.pw_nightbook_k32_stays_refused.main.body.getD i (.Pass ⟨0, 0, 0, 0⟩)
def sts : List Stmt := [6, 9, 10, 11, 12, 13, 14, 15, 16, 18, 19, 20, 21, 22, 23, 24, 26, 28, 29, 30, 31, 32, 33, 34, 35, 36, 37, 38, 39, 40, 41, 42, 43, 44].map top
theorem b_0 : BindA d_is_whole (top 6) := BindA.all (fun _ _ _ _ _ _ _ _ _ _ us hl => match us, hl with | [_], _ => rfl) rfl
theorem b_1 : BindA d_is_stretch (top 9) := BindA.all (fun _ _ _ _ _ _ _ _ _ _ us hl => match us, hl with | [_], _ => rfl) rfl
theorem b_2 : BindA d_holds (top 10) := BindA.all (fun _ _ _ _ _ _ _ _ _ _ us hl => match us, hl with | [_, _], _ => rfl) rfl
theorem b_3 : BindA d_shared (top 11) := BindA.all (fun _ _ _ _ _ _ _ _ _ _ us hl => match us, hl with | [_, _], _ => rfl) rfl
theorem b_4 : BindA d_meets (top 12) := BindA.all (fun _ _ _ _ _ _ _ _ _ _ us hl => match us, hl with | [_, _], _ => rfl) rfl
theorem b_5 : BindA d_count_at (top 13) := BindA.all (fun _ _ _ _ _ _ _ _ _ _ us hl => match us, hl with | [_, _], _ => rfl) rfl
theorem b_6 : BindA d_edges (top 14) := BindA.all (fun _ _ _ _ _ _ _ _ _ _ us hl => match us, hl with | [_], _ => rfl) rfl
theorem b_7 : BindA d_counts (top 15) := BindA.all (fun _ _ _ _ _ _ _ _ _ _ us hl => match us, hl with | [_], _ => rfl) rfl
theorem bd_8_2 : BindD (top 16) (d_fuller.ns.take d_fuller.ps) 1 2 := fun _ _ _ _ _ _ _ _ _ _ _ us its k1 k2 => match us, its, k1, k2 with
  | [_, _], [_], _, _ => ⟨_, rfl, rfl⟩
theorem bd_8_3 : BindD (top 16) (d_fuller.ns.take d_fuller.ps) 1 3 := fun _ _ _ _ _ _ _ _ _ _ _ us its k1 k2 => match us, its, k1, k2 with
  | [_, _, _], [_], _, _ => ⟨_, rfl, rfl⟩
theorem b_8 : BindA d_fuller (top 16) := ⟨(fun z => by cases z), (fun z => by cases z), fun _ m h1 h2 => by
  have h1 : m ≤ 3 := h1
  have h2 : 3 ≤ m + 1 := h2
  have : m = 2 ∨ m = 3 := by omega
  rcases this with rfl | rfl
  · exact bd_8_2
  · exact bd_8_3⟩
theorem b_9 : BindA d_is_stay (top 18) := BindA.all (fun _ _ _ _ _ _ _ _ _ _ us hl => match us, hl with | [_, _, _], _ => rfl) rfl
theorem b_10 : BindA d_check_stays (top 19) := BindA.all (fun _ _ _ _ _ _ _ _ _ _ us hl => match us, hl with | [_, _, _], _ => rfl) rfl
theorem b_11 : BindA d_stretches_of (top 20) := BindA.all (fun _ _ _ _ _ _ _ _ _ _ us hl => match us, hl with | [_], _ => rfl) rfl
theorem b_12 : BindA d_check_nights (top 21) := BindA.all (fun _ _ _ _ _ _ _ _ _ _ us hl => match us, hl with | [_, _, _], _ => rfl) rfl
theorem b_13 : BindA d_by_first (top 22) := BindA.all (fun _ _ _ _ _ _ _ _ _ _ us hl => match us, hl with | [_], _ => rfl) rfl
theorem b_14 : BindA d_free_room (top 23) := BindA.all (fun _ _ _ _ _ _ _ _ _ _ us hl => match us, hl with | [_, _, _, _], _ => rfl) rfl
theorem bd_15_2 : BindD (top 24) (d_seated.ns.take d_seated.ps) 1 2 := fun _ _ _ _ _ _ _ _ _ _ _ us its k1 k2 => match us, its, k1, k2 with
  | [_, _], [_], _, _ => ⟨_, rfl, rfl⟩
theorem bd_15_3 : BindD (top 24) (d_seated.ns.take d_seated.ps) 1 3 := fun _ _ _ _ _ _ _ _ _ _ _ us its k1 k2 => match us, its, k1, k2 with
  | [_, _, _], [_], _, _ => ⟨_, rfl, rfl⟩
theorem b_15 : BindA d_seated (top 24) := ⟨(fun z => by cases z), (fun z => by cases z), fun _ m h1 h2 => by
  have h1 : m ≤ 3 := h1
  have h2 : 3 ≤ m + 1 := h2
  have : m = 2 ∨ m = 3 := by omega
  rcases this with rfl | rfl
  · exact bd_15_2
  · exact bd_15_3⟩
theorem b_16 : BindA d_is_plan (top 26) := BindA.all (fun _ _ _ _ _ _ _ _ _ _ us hl => match us, hl with | [_, _, _, _], _ => rfl) rfl
theorem b_17 : BindA d__law_cell (top 28) := BindA.all (fun _ _ _ _ _ _ _ _ _ _ us hl => match us, hl with | [_, _], _ => rfl) rfl
theorem b_18 : BindA d__law_part (top 29) := BindA.all (fun _ _ _ _ _ _ _ _ _ _ us hl => match us, hl with | [_, _, _, _], _ => rfl) rfl
theorem b_19 : BindA d__law_whole (top 30) := BindA.all (fun _ _ _ _ _ _ _ _ _ _ us hl => match us, hl with | [_], _ => rfl) rfl
theorem b_20 : BindA d__law_stay (top 31) := BindA.all (fun _ _ _ _ _ _ _ _ _ _ us hl => match us, hl with | [_, _, _, _, _], _ => rfl) rfl
theorem b_21 : BindA d__law_guest (top 32) := BindA.all (fun _ _ _ _ _ _ _ _ _ _ us hl => match us, hl with | [_, _, _, _, _], _ => rfl) rfl
theorem b_22 : BindA d__law_full (top 33) := BindA.all (fun _ _ _ _ _ _ _ _ _ _ us hl => match us, hl with | [_, _, _], _ => rfl) rfl
theorem b_23 : BindA d__law_numbers (top 34) := BindA.all (fun _ _ _ _ _ _ _ _ _ _ us hl => match us, hl with | [_], _ => rfl) rfl
theorem b_24 : BindA d__law_stays (top 35) := BindA.all (fun _ _ _ _ _ _ _ _ _ _ us hl => match us, hl with | [_, _, _, _], _ => rfl) rfl
theorem b_25 : BindA d__law_right (top 36) := BindA.all (fun _ _ _ _ _ _ _ _ _ _ us hl => match us, hl with | [_, _, _], _ => rfl) rfl
theorem b_26 : BindA d__law_stretch (top 37) := BindA.all (fun _ _ _ _ _ _ _ _ _ _ us hl => match us, hl with | [_], _ => rfl) rfl
theorem b_27 : BindA d__law_good (top 38) := BindA.all (fun _ _ _ _ _ _ _ _ _ _ us hl => match us, hl with | [_, _, _], _ => rfl) rfl
theorem b_28 : BindA d__law_due (top 39) := BindA.all (fun _ _ _ _ _ _ _ _ _ _ us hl => match us, hl with | [_, _, _], _ => rfl) rfl
theorem b_29 : BindA d__law_odd (top 40) := BindA.all (fun _ _ _ _ _ _ _ _ _ _ us hl => match us, hl with | [_, _, _, _], _ => rfl) rfl
theorem b_30 : BindA d__law_put (top 41) := BindA.all (fun _ _ _ _ _ _ _ _ _ _ us hl => match us, hl with | [_, _, _, _, _], _ => rfl) rfl
theorem b_31 : BindA d__law_caught (top 42) := BindA.all (fun _ _ _ _ _ _ _ _ _ _ us hl => match us, hl with | [_, _, _, _], _ => rfl) rfl
theorem b_32 : BindA d__law_told (top 43) := BindA.all (fun _ _ _ _ _ _ _ _ _ _ us hl => match us, hl with | [_, _, _], _ => rfl) rfl
theorem b_33 : BindA d_law (top 44) := BindA.all (fun _ _ _ _ _ _ _ _ _ _ us hl => match us, hl with | [_], _ => rfl) rfl
def inis : List In1 := [("NoStay", "at", initOf (top 2)), ("Taken", "room", initOf (top 3)), ("TooFull", "night", initOf (top 4))]
theorem bi_0 : BindOk (initOf (top 2)) ["self", "at"] := fun _ _ _ _ _ _ _ _ _ _ us hl => match us, hl with | [_, _], _ => rfl
theorem bi_1 : BindOk (initOf (top 3)) ["self", "room"] := fun _ _ _ _ _ _ _ _ _ _ us hl => match us, hl with | [_, _], _ => rfl
theorem bi_2 : BindOk (initOf (top 4)) ["self", "night"] := fun _ _ _ _ _ _ _ _ _ _ us hl => match us, hl with | [_, _], _ => rfl
theorem ini_at (j : Nat) (x g : Str) (h : xcs[j]? = some (x, some g)) : ∃ st, (x, g, st) ∈ inis ∧ iniS g st = true ∧ BindOk st ["self", g] := by
  match j, h with
  | 0, h => cases h
  | 1, h => cases h; exact ⟨_, List.mem_of_getElem? (i := 0) rfl, by decide +kernel, bi_0⟩
  | 2, h => cases h; exact ⟨_, List.mem_of_getElem? (i := 1) rfl, by decide +kernel, bi_1⟩
  | 3, h => cases h; exact ⟨_, List.mem_of_getElem? (i := 2) rfl, by decide +kernel, bi_2⟩
  | _ + 4, h => cases h
theorem txt : Txt ck sts inis where
  len := rfl
  ok := by decide +kernel
  bind := fun j d st h1 h2 => by
    match j, h1, h2 with
    | 0, h1, h2 => cases h1; cases h2; exact b_0
    | 1, h1, h2 => cases h1; cases h2; exact b_1
    | 2, h1, h2 => cases h1; cases h2; exact b_2
    | 3, h1, h2 => cases h1; cases h2; exact b_3
    | 4, h1, h2 => cases h1; cases h2; exact b_4
    | 5, h1, h2 => cases h1; cases h2; exact b_5
    | 6, h1, h2 => cases h1; cases h2; exact b_6
    | 7, h1, h2 => cases h1; cases h2; exact b_7
    | 8, h1, h2 => cases h1; cases h2; exact b_8
    | 9, h1, h2 => cases h1; cases h2; exact b_9
    | 10, h1, h2 => cases h1; cases h2; exact b_10
    | 11, h1, h2 => cases h1; cases h2; exact b_11
    | 12, h1, h2 => cases h1; cases h2; exact b_12
    | 13, h1, h2 => cases h1; cases h2; exact b_13
    | 14, h1, h2 => cases h1; cases h2; exact b_14
    | 15, h1, h2 => cases h1; cases h2; exact b_15
    | 16, h1, h2 => cases h1; cases h2; exact b_16
    | 17, h1, h2 => cases h1; cases h2; exact b_17
    | 18, h1, h2 => cases h1; cases h2; exact b_18
    | 19, h1, h2 => cases h1; cases h2; exact b_19
    | 20, h1, h2 => cases h1; cases h2; exact b_20
    | 21, h1, h2 => cases h1; cases h2; exact b_21
    | 22, h1, h2 => cases h1; cases h2; exact b_22
    | 23, h1, h2 => cases h1; cases h2; exact b_23
    | 24, h1, h2 => cases h1; cases h2; exact b_24
    | 25, h1, h2 => cases h1; cases h2; exact b_25
    | 26, h1, h2 => cases h1; cases h2; exact b_26
    | 27, h1, h2 => cases h1; cases h2; exact b_27
    | 28, h1, h2 => cases h1; cases h2; exact b_28
    | 29, h1, h2 => cases h1; cases h2; exact b_29
    | 30, h1, h2 => cases h1; cases h2; exact b_30
    | 31, h1, h2 => cases h1; cases h2; exact b_31
    | 32, h1, h2 => cases h1; cases h2; exact b_32
    | 33, h1, h2 => cases h1; cases h2; exact b_33
    | _ + 34, h1, h2 => cases h1
  cst := by decide +kernel
  ini := fun x f h => let ⟨j, hj⟩ := List.getElem?_of_mem h; ini_at j x f hj
abbrev Rw : PySem.W.OpenRow := PySem.W.OpenLaw.row PySem.Challenge.rw_nightbook_k32_stays_refused
abbrev hk : PySem.W.Hook := hookP 4 (faOf ck) (fnX ck sts inis) ck.xc
def ob (s : PySem.W.SharedT) : He.AlD × Bool := obsPG 4 (faOf ck) (fnX ck sts inis) ck.xc (HandSHeadRun.getT s)
theorem ob_eq (z : PySem.W.SharedT) : ob z = hk.obs z.abs := obsPG_eq (HandSHeadRun.getT_eq z)
theorem run (w : World) : HandSHeadRun.RunEq Rw (PySem.W.view Rw.prog [44]) hk ob 3000 ((["InnError", "NoStay", "Taken", "TooFull", "is_whole", "NIGHTS", "is_stretch", "holds", "shared", "meets", "count_at", "edges", "counts", "fuller", "is_stay", "check_stays", "stretches_of", "check_nights", "by_first", "free_room", "seated", "is_plan", "_law_cell", "_law_part", "_law_whole", "_law_stay", "_law_guest", "_law_full", "_law_numbers", "_law_stays", "_law_right", "_law_stretch", "_law_good", "_law_due", "_law_odd"] : List PySem.Str) ++ (["_law_put", "_law_caught", "_law_told"] : List PySem.Str)) w := by
  intro os
  kernel_rfl
end Law_nightbook_k32_stays_refused
open PyProof.Rows PySem.Calls PySem.W PySem
theorem PySem.Challenge.cw_nightbook_k32_stays_refused_holds : PySem.Challenge.rw_nightbook_k32_stays_refused.Holds := by
  w_on; o_law
  refine HandSHeadRun.head_any (r := OpenLaw.row PySem.Challenge.rw_nightbook_k32_stays_refused) (q := view (OpenLaw.row PySem.Challenge.rw_nightbook_k32_stays_refused).prog [44]) (H := Law_nightbook_k32_stays_refused.hk) (ob := Law_nightbook_k32_stays_refused.ob) (M := 3000) (loose := (["InnError", "NoStay", "Taken", "TooFull", "is_whole", "NIGHTS", "is_stretch", "holds", "shared", "meets", "count_at", "edges", "counts", "fuller", "is_stay", "check_stays", "stretches_of", "check_nights", "by_first", "free_room", "seated", "is_plan", "_law_cell", "_law_part", "_law_whole", "_law_stay", "_law_guest", "_law_full", "_law_numbers", "_law_stays", "_law_right", "_law_stretch", "_law_good", "_law_due", "_law_odd"] : List PySem.Str) ++ (["_law_put", "_law_caught", "_law_told"] : List PySem.Str)) (d := HandSHeadRun.topDef (OpenLaw.row PySem.Challenge.rw_nightbook_k32_stays_refused).prog 44) (kwd := []) Law_nightbook_k32_stays_refused.ob_eq
    (by kernel_rfl) (fun s => by kernel_rfl) Law_nightbook_k32_stays_refused.run (by kernel_rfl) (by kernel_rfl) (by kernel_rfl) (by rfl) (by first | assumption | decide +kernel) (by decide +kernel) ⟨rfl, rfl, rfl, rfl, rfl, by decide +kernel⟩ ?hw ?hc
  case hw => w_witness2
  case hc =>
    refine PL.walk_ofW (l := PySem.Challenge.rw_nightbook_k32_stays_refused) (most := 63) (k := 12 + 2) (par := "_law_script") rfl (by decide) (by kernel_rfl) ⟨rfl, by decide, by decide⟩ ?F
    intro w mg fa h Y G hmg0
    obtain ⟨K, KX, c⟩ := Y
    have hLaw : mg ("law" : PySem.Str) = some (.ref fa) := by
      have e : (HandSHeadRun.topDef (OpenLaw.row PySem.Challenge.rw_nightbook_k32_stays_refused).prog 44).name = ("law" : PySem.Str) := by kernel_rfl
      exact e ▸ hmg0
    exact PL.walk_facts (jl := 33) (dl := Law_nightbook_k32_stays_refused.d_law) Law_nightbook_k32_stays_refused.txt rfl rfl rfl rfl rfl 12 Law_nightbook_k32_stays_refused.plain KX G hLaw c

