import PyProof.Rows.All
import Wide.All
import OpenK.AllK
import Wide.FinOn
import HandS.ForMost
import HandS.Defaults
import HandS.Style
import HandS.Wide
import HandS.WideBits
import HandS.TupAny
import HandS.TupMul
import HandS.Conv
import HandS.IsInst
import HandS.Deep
import KE.GoesEnumKw
import HandS.Iter
import HandS.Zip
import HandS.Rev
import HandS.Text
import HandS.Small
import HandS.SetFor
import HandS.More
import HandS.SortInts
import KE.KTupSum
import HandS.DictTup
import KE.KStateDown
import Lean
import HandS.Head0
import HandS.Head1
import HandS.Head2
import HandS.HeadEnd
import HandS.HeadHook1
import HandS.HeadHook2
import HandS.EndBits
import PySem.Challenge.RW_turnpicks_k30_sure_numbers
set_option Elab.async false
set_option linter.all false
/-! The clean semantics: values D, a store of cells, expressions and statements as functions. -/
namespace T
open PySem

inductive D where
  | non | bl (b : Bool) | int (i : Int) | str (x : List Nat) | tup (l : List D) | ref (n : Nat)
  deriving Inhabited, Repr

mutual
def D.beq : D → D → Bool
  | .non, .non => true
  | .bl a, .bl b => a == b
  | .int a, .int b => decide (a = b)
  | .str a, .str b => decide (a = b)
  | .tup l, .tup m => D.beqL l m
  | .ref a, .ref b => decide (a = b)
  | _, _ => false
def D.beqL : List D → List D → Bool
  | [], [] => true
  | a :: l, b :: m => D.beq a b && D.beqL l m
  | _, _ => false
end
mutual
theorem D.beq_eq : ∀ {a b : D}, D.beq a b = true → a = b
  | .non, b, h => by cases b <;> simp [D.beq] at h ⊢
  | .bl a, b, h => by cases b <;> simp [D.beq] at h ⊢; exact h
  | .int a, b, h => by cases b <;> simp [D.beq] at h ⊢; exact h
  | .str a, b, h => by cases b <;> simp [D.beq] at h ⊢; exact h
  | .ref a, b, h => by cases b <;> simp [D.beq] at h ⊢; exact h
  | .tup l, b, h => by
    cases b <;> simp [D.beq] at h ⊢
    exact D.beqL_eq h
theorem D.beqL_eq : ∀ {a b : List D}, D.beqL a b = true → a = b
  | [], [], _ => rfl
  | [], _ :: _, h => by simp [D.beqL] at h
  | _ :: _, [], h => by simp [D.beqL] at h
  | a :: l, b :: m, h => by
    simp [D.beqL] at h
    rw [D.beq_eq h.1, D.beqL_eq h.2]
end
mutual
theorem D.beq_refl : ∀ a : D, D.beq a a = true
  | .non => rfl
  | .bl a => by simp [D.beq]
  | .int a => by simp [D.beq]
  | .str a => by simp [D.beq]
  | .ref a => by simp [D.beq]
  | .tup l => by simp [D.beq]; exact D.beqL_refl l
theorem D.beqL_refl : ∀ a : List D, D.beqL a a = true
  | [] => rfl
  | a :: l => by simp [D.beqL]; exact ⟨D.beq_refl a, D.beqL_refl l⟩
end
/-! no reference within -/
mutual
def D.flat : D → Bool
  | .ref _ => false
  | .tup l => D.flatL l
  | _ => true
def D.flatL : List D → Bool
  | [] => true
  | a :: l => D.flat a && D.flatL l
end

inductive Cell where
  | lst (l : List D)
  | fz (l : List D)
  | dct (kvs : List (D × D))
  | obj (c : Str) (fs : List (Str × D))
  deriving Inhabited, Repr
abbrev Store := List Cell
def Cell.flat : Cell → Bool
  | .lst l => D.flatL l
  | .fz l => D.flatL l
  | .dct kvs => D.flatL (kvs.map (·.1)) && D.flatL (kvs.map (·.2))
  | .obj _ fs => D.flatL (fs.map (·.2))

inductive R (α : Type) where
  | ok (a : α) (S : Store)
  | exc (c : Str) (d : D) (S : Store)
  | err
def R.bind {α β : Type} (r : R α) (f : α → Store → R β) : R β := match r with
  | .ok a S => f a S
  | .exc c d S => .exc c d S
  | .err => .err
def goodR {α : Type} (r : R α) (P : α → Store → Prop) : Prop := match r with
  | .ok a S => P a S
  | _ => False
theorem goodR_bind {α β : Type} {r : R α} {f : α → Store → R β} {P : β → Store → Prop} : goodR (r.bind f) P ↔ goodR r fun a S => goodR (f a S) P := by
  cases r <;> exact Iff.rfl
theorem goodR.mono {α : Type} {r : R α} {P P' : α → Store → Prop} (h : goodR r P) (k : ∀ a S, P a S → P' a S) : goodR r P' := by
  cases r with
  | ok a S => exact k a S h
  | _ => exact h

abbrev Env := List (Option D)
abbrev Ev := Env → Store → R D
abbrev LEv := Env → Store → R (List D)
abbrev TEv := Env → Store → R Bool
abbrev FSem := List D → Store → R D
inductive SR where
  | nx (ρ : Env) (S : Store)
  | rt (d : D) (S : Store)
  | exc (c : Str) (d : D) (S : Store)
  | err
abbrev SEv := Env → Store → SR

/-! ### what no one needs any more is dropped where a call hands back -/
def sameCell : Cell → Cell → Bool
  | .lst a, .lst b => D.beqL a b
  | .fz a, .fz b => D.beqL a b
  | .dct a, .dct b => D.beqL (a.map (·.1)) (b.map (·.1)) && D.beqL (a.map (·.2)) (b.map (·.2))
  | .obj c a, .obj c' b => decide (c = c') && decide (a.map (·.1) = b.map (·.1)) && D.beqL (a.map (·.2)) (b.map (·.2))
  | _, _ => false
def oldOk : Store → Store → Bool
  | [], _ => true
  | _ :: _, [] => false
  | a :: S, b :: S' => (b.flat || sameCell a b) && oldOk S S'
def gc (S : Store) (d : D) (S' : Store) : D × Store := match oldOk S S' with
  | false => (d, S')
  | true => match d.flat with
    | true => (d, S'.take S.length)
    | false => match d with
      | .ref n => match S'[n]? with
        | some (.lst l) => match D.flatL l && decide (S.length ≤ n) with
          | true => (.ref S.length, S'.take S.length ++ [.lst l])
          | false => (d, S')
        | _ => (d, S')
      | _ => (d, S')
def gcR (S : Store) (r : R D) : R D := r.bind fun d S' => .ok (gc S d S').1 (gc S d S').2

/-! ### expressions -/
def lineN : Nat := 16777216
def eVar (i : Nat) : Ev := fun ρ S => match ρ[i]? with
  | some (some d) => .ok d S
  | _ => .err
def eC (d : D) : Ev := fun _ S => .ok d S
def e1 (f : D → Store → R D) (a : Ev) : Ev := fun ρ S => (a ρ S).bind f
def e2 (f : D → D → Store → R D) (a b : Ev) : Ev := fun ρ S => (a ρ S).bind fun x S1 => (b ρ S1).bind fun y S2 => f x y S2
def lNil : LEv := fun _ S => .ok [] S
def lCons (a : Ev) (l : LEv) : LEv := fun ρ S => (a ρ S).bind fun x S1 => (l ρ S1).bind fun xs S2 => .ok (x :: xs) S2
def eTup (l : LEv) : Ev := fun ρ S => (l ρ S).bind fun xs S1 => if xs.length ≤ lineN then .ok (.tup xs) S1 else .err
def eLst (l : LEv) : Ev := fun ρ S => (l ρ S).bind fun xs S1 => if xs.length ≤ lineN then .ok (.ref S1.length) (S1 ++ [.lst xs]) else .err
def eCall (n : Nat) (f : FSem) (l : LEv) : Ev := fun ρ S => (l ρ S).bind fun xs S1 => if xs.length = n then gcR S1 (f xs S1) else .err
def eB (f : FSem) (l : LEv) : Ev := fun ρ S => (l ρ S).bind fun xs S1 => f xs S1
def eM (f : D → List D → Store → R D) (o : Ev) (l : LEv) : Ev := fun ρ S => (o ρ S).bind fun x S1 => (l ρ S1).bind fun xs S2 => f x xs S2
def eIf (c : TEv) (a b : Ev) : Ev := fun ρ S => (c ρ S).bind fun t S1 => match t with
  | true => a ρ S1
  | false => b ρ S1
def eAnd (a b : Ev) : Ev := fun ρ S => (a ρ S).bind fun x S1 => match x with
  | .bl true => b ρ S1
  | .bl false => .ok (.bl false) S1
  | _ => .err
def eOr (a b : Ev) : Ev := fun ρ S => (a ρ S).bind fun x S1 => match x with
  | .bl true => .ok (.bl true) S1
  | .bl false => b ρ S1
  | _ => .err
def eNot (a : TEv) : Ev := fun ρ S => (a ρ S).bind fun t S1 => .ok (.bl (!t)) S1
/-- a op b op' c -/
def eChain (f g : D → D → Store → R D) (a b c : Ev) : Ev := fun ρ S => (a ρ S).bind fun x S1 => (b ρ S1).bind fun y S2 => (f x y S2).bind fun z S3 => match z with
  | .bl true => (c ρ S3).bind fun w S4 => g y w S4
  | .bl false => .ok (.bl false) S3
  | _ => .err
/-! ### tests -/
def truth (x : D) (S : Store) : Option Bool := match x with
  | .non => some false
  | .bl b => some b
  | .int i => some (i != 0)
  | .str y => if y.length ≤ lineN then some (!y.isEmpty) else none
  | .tup l => some (!l.isEmpty)
  | .ref n => match S[n]? with
    | some (.lst l) => some (!l.isEmpty)
    | some (.fz l) => some (!l.isEmpty)
    | some (.dct l) => some (!l.isEmpty)
    | _ => none
def tV (a : Ev) : TEv := fun ρ S => (a ρ S).bind fun x S1 => match truth x S1 with
  | some b => .ok b S1
  | none => .err
/-- of a comparison: a bool alone -/
def tB (a : Ev) : TEv := fun ρ S => (a ρ S).bind fun x S1 => match x with
  | .bl b => .ok b S1
  | _ => .err
def tNot (a : TEv) : TEv := fun ρ S => (a ρ S).bind fun t S1 => .ok (!t) S1
def tAnd (a b : TEv) : TEv := fun ρ S => (a ρ S).bind fun t S1 => match t with
  | true => b ρ S1
  | false => .ok false S1
def tOr (a b : TEv) : TEv := fun ρ S => (a ρ S).bind fun t S1 => match t with
  | true => .ok true S1
  | false => b ρ S1
def tYes : TEv := fun _ S => .ok true S
/-! ### what is walked: how many turns at most, and what comes at a turn (none: no one knows; some none: the end) -/
structure It where
  n : Nat
  at_ : Nat → Store → Option (Option D)
abbrev IEv := Env → Store → R It
abbrev Tg := D → Env → Store → Option Env
def tgN (i : Nat) : Tg := fun d ρ _ => if i < ρ.length then some (ρ.set i (some d)) else none
abbrev Tgs := List D → Env → Store → Option Env
def tgNil : Tgs := fun ds ρ _ => match ds with
  | [] => some ρ
  | _ => none
def tgCons (t : Tg) (ts : Tgs) : Tgs := fun ds ρ S => match ds with
  | d :: r => match t d ρ S with
    | some ρ1 => ts r ρ1 S
    | none => none
  | [] => none
def tgT (ts : Tgs) : Tg := fun d ρ S => match d with
  | .tup ds => ts ds ρ S
  | _ => none
def wipeE (ρ : Env) : List Nat → Env
  | [] => ρ
  | v :: vs => (wipeE ρ vs).set v none
/-- a comprehension's turns: the env of a turn is made anew -/
def lcL (at_ : Nat → Store → Option (Option D)) (tg : Tg) (c : TEv) (e : Ev) (ρ : Env) : Nat → Nat → List D → Store → R (List D)
  | 0, i, acc, S => match at_ i S with
    | some none => .ok acc S
    | _ => .err
  | k + 1, i, acc, S => match at_ i S with
    | some none => .ok acc S
    | some (some d) => match tg d ρ S with
      | some ρ1 => (c ρ1 S).bind fun t S1 => match t with
        | true => (e ρ1 S1).bind fun y S2 => if acc.length < lineN then lcL at_ tg c e ρ k (i + 1) (acc ++ [y]) S2 else .err
        | false => lcL at_ tg c e ρ k (i + 1) acc S1
      | none => .err
    | none => .err
def eLc (own : List Nat) (tg : Tg) (it : IEv) (c : TEv) (e : Ev) : Ev := fun ρ S => (it ρ S).bind fun J S1 => (lcL J.at_ tg c e (wipeE ρ own) J.n 0 [] S1).bind fun l S2 => .ok (.ref S2.length) (S2 ++ [.lst l])

/-! ### statements -/
def sNil : SEv := fun ρ S => .nx ρ S
def sSeq (a b : SEv) : SEv := fun ρ S => match a ρ S with
  | .nx ρ1 S1 => b ρ1 S1
  | r => r
def ofR (r : R D) (k : D → Store → SR) : SR := match r with
  | .ok d S => k d S
  | .exc c d S => .exc c d S
  | .err => .err
def sRet (e : Ev) : SEv := fun ρ S => ofR (e ρ S) .rt
def sRetN : SEv := fun _ S => .rt .non S
def sDrop (e : Ev) : SEv := fun ρ S => ofR (e ρ S) fun _ S1 => .nx ρ S1
def sErr : SEv := fun _ _ => .err
def sIf (c : TEv) (a b : SEv) : SEv := fun ρ S => match c ρ S with
  | .ok true S1 => a ρ S1
  | .ok false S1 => b ρ S1
  | .exc c d S1 => .exc c d S1
  | .err => .err
def sAsg (tg : Tg) (e : Ev) : SEv := fun ρ S => ofR (e ρ S) fun d S1 => match tg d ρ S1 with
  | some ρ1 => .nx ρ1 S1
  | none => .err
/-- a, b = x, y with plain names: stored from the right -/
def sPar (l : LEv) (ts : Tgs) : SEv := fun ρ S => match l ρ S with
  | .ok ds S1 => match ts ds ρ S1 with
    | some ρ1 => .nx ρ1 S1
    | none => .err
  | .exc c d S1 => .exc c d S1
  | .err => .err
def sAug (i : Nat) (f : D → D → Store → R D) (e : Ev) : SEv := fun ρ S => match ρ[i]? with
  | some (some x) => ofR (e ρ S) fun y S1 => ofR (f x y S1) fun z S2 => .nx (ρ.set i (some z)) S2
  | _ => .err
/-- o[i] = e -/
def sSub (g : D → D → D → Store → Option Store) (e o i : Ev) : SEv := fun ρ S => ofR (e ρ S) fun v S1 => ofR (o ρ S1) fun x S2 => ofR (i ρ S2) fun y S3 => match g x y v S3 with
  | some S4 => .nx ρ S4
  | none => .err
/-- o[i] op= e -/
def sAugS (g : D → D → Store → R D) (f : D → D → Store → R D) (p : D → D → D → Store → Option Store) (o i e : Ev) : SEv := fun ρ S => ofR (o ρ S) fun x S1 => ofR (i ρ S1) fun y S2 => ofR (g x y S2) fun v S3 => ofR (e ρ S3) fun w S4 => ofR (f v w S4) fun z S5 => match p x y z S5 with
  | some S6 => .nx ρ S6
  | none => .err
def forL (at_ : Nat → Store → Option (Option D)) (tg : Tg) (body : SEv) : Nat → Nat → Env → Store → SR
  | 0, i, ρ, S => match at_ i S with
    | some none => .nx ρ S
    | _ => .err
  | k + 1, i, ρ, S => match at_ i S with
    | some none => .nx ρ S
    | some (some d) => match tg d ρ S with
      | some ρ1 => match body ρ1 S with
        | .nx ρ2 S2 => forL at_ tg body k (i + 1) ρ2 S2
        | r => r
      | none => .err
    | none => .err
def sFor (tg : Tg) (it : IEv) (body : SEv) : SEv := fun ρ S => match it ρ S with
  | .ok J S1 => forL J.at_ tg body J.n 0 ρ S1
  | .exc c d S1 => .exc c d S1
  | .err => .err
def whL (c : TEv) (body : SEv) : Nat → Env → Store → SR
  | 0, _, _ => .err
  | k + 1, ρ, S => match c ρ S with
    | .ok false S1 => .nx ρ S1
    | .ok true S1 => match body ρ S1 with
      | .nx ρ2 S2 => whL c body k ρ2 S2
      | r => r
    | .exc c d S1 => .exc c d S1
    | .err => .err
def sWhile (c : TEv) (body : SEv) : SEv := whL c body 4294967296
/-- a def of n names -/
def defF (n : Nat) (body : SEv) : FSem := fun as S => match body (as.map some ++ List.replicate (n - as.length) none) S with
  | .nx _ S1 => .ok .non S1
  | .rt d S1 => .ok d S1
  | .exc c d S1 => .exc c d S1
  | .err => .err
def goodS (r : SR) (N : Env → Store → Prop) (T : D → Store → Prop) : Prop := match r with
  | .nx ρ S => N ρ S
  | .rt d S => T d S
  | _ => False
theorem goodS.mono {r : SR} {N N' : Env → Store → Prop} {T T' : D → Store → Prop} (h : goodS r N T) (k : ∀ ρ S, N ρ S → N' ρ S) (k' : ∀ d S, T d S → T' d S) : goodS r N' T' := by
  cases r with
  | nx ρ S => exact k ρ S h
  | rt d S => exact k' d S h
  | _ => exact h
theorem goodS_ofR {r : R D} {k : D → Store → SR} {N : Env → Store → Prop} {T : D → Store → Prop} : goodS (ofR r k) N T ↔ goodR r fun d S => goodS (k d S) N T := by
  cases r <;> exact Iff.rfl
end T

set_option Elab.async false
set_option linter.all false
set_option maxRecDepth 100000
set_option maxHeartbeats 1000000
namespace T
open PySem PySem.Spec PyProof.Rows L2

/-! ### what stands for what -/
/-- a tuple that is never written, without a dict of its own -/
def TupAt (K : PySem.W.Frag) (H : Hp) (a : Addr) (vs : List V) : Prop :=
  (∃ o, H a = some (.frz o (.tup vs)) ∧ o.dict = none) ∨
    ∃ (o : Obj) (its : Array Value) (n : Nat), K.lookup a = some o ∧ o.cls = .type "tuple" ∧ o.dict = none ∧ o.data = .seq its n ∧ its.size ≤ sizeLine ∧ Vals vs its.toList
theorem TupAt.sq {K : PySem.W.Frag} {H : Hp} {a : Addr} {vs : List V} (h : TupAt K H a vs) : SqT K H a vs := by
  rcases h with ⟨o, h, _⟩ | ⟨o, its, n, h1, h2, _, h4, h5, h6⟩
  · exact .inl (.inr ⟨o, h⟩)
  · exact .inr ⟨o, its, n, h1, h2, h4, h5, h6⟩
mutual
def RD (K : PySem.W.Frag) (m : List Addr) (H : Hp) : D → V → Prop
  | .non, v => v = .non
  | .bl b, v => v = .bl b
  | .int i, v => v = .int i
  | .str x, v => v = .str ⟨x.toArray⟩
  | .ref n, v => ∃ a, m[n]? = some a ∧ v = .ref a
  | .tup ds, v => ∃ a vs, v = .ref a ∧ TupAt K H a vs ∧ RDs K m H ds vs
def RDs (K : PySem.W.Frag) (m : List Addr) (H : Hp) : List D → List V → Prop
  | [], vs => vs = []
  | d :: ds, vs => ∃ v r, vs = v :: r ∧ RD K m H d v ∧ RDs K m H ds r
end
/-- from a heap to a later one: what is not in the store stands, what is new in the store was free -/
structure Step (m : List Addr) (H : Hp) (m' : List Addr) (H' : Hp) : Prop where
  pre : m <+: m'
  new : ∀ a ∈ m', a ∈ m ∨ H a = none
  keep : ∀ a o, H a = some o → a ∉ m → H' a = some o
  frz : ∀ a o u, H a = some (.frz o u) → H' a = some (.frz o u)
theorem Step.refl (m : List Addr) (H : Hp) : Step m H m H := ⟨List.prefix_refl m, fun _ h => .inl h, fun _ _ h _ => h, fun _ _ _ h => h⟩
theorem Step.trans {m m1 m2 : List Addr} {H H1 H2 : Hp} (a : Step m H m1 H1) (b : Step m1 H1 m2 H2) : Step m H m2 H2 where
  pre := a.pre.trans b.pre
  new := fun c hc => by
    rcases b.new c hc with h | h
    · exact a.new c h
    · by_cases hm : c ∈ m
      · exact .inl hm
      · cases q : H c with
        | none => exact .inr rfl
        | some o => rw [a.keep c o q hm] at h; cases h
  keep := fun c o h hm => by
    refine b.keep c o (a.keep c o h hm) fun hc => ?_
    rcases a.new c hc with z | z
    · exact hm z
    · rw [h] at z; cases z
  frz := fun c o u h => b.frz c o u (a.frz c o u h)
theorem Step.get {m m' : List Addr} {H H' : Hp} (s : Step m H m' H') {n : Nat} {a : Addr} (h : m[n]? = some a) : m'[n]? = some a := by
  obtain ⟨t, rfl⟩ := s.pre
  have hn : n < m.length := (List.getElem?_eq_some_iff.mp h).1
  rw [List.getElem?_append_left hn]
  exact h
abbrev Frz (H H' : Hp) : Prop := ∀ a o u, H a = some (.frz o u) → H' a = some (.frz o u)
theorem pre_get {m m' : List Addr} (s : m <+: m') {n : Nat} {a : Addr} (h : m[n]? = some a) : m'[n]? = some a := by
  obtain ⟨t, rfl⟩ := s
  have hn : n < m.length := (List.getElem?_eq_some_iff.mp h).1
  rw [List.getElem?_append_left hn]
  exact h
theorem TupAt.mono {K : PySem.W.Frag} {H H' : Hp} {a : Addr} {vs : List V} (f : Frz H H') (h : TupAt K H a vs) : TupAt K H' a vs := by
  rcases h with ⟨o, h, d⟩ | h
  · exact .inl ⟨o, f _ _ _ h, d⟩
  · exact .inr h
mutual
theorem RD.mono {K : PySem.W.Frag} {m m' : List Addr} {H H' : Hp} (p : m <+: m') (f : Frz H H') : ∀ {d : D} {v : V}, RD K m H d v → RD K m' H' d v
  | .non, _, h => h
  | .bl _, _, h => h
  | .int _, _, h => h
  | .str _, _, h => h
  | .ref n, _, h => by
    obtain ⟨a, h1, h2⟩ := h
    exact ⟨a, pre_get p h1, h2⟩
  | .tup ds, _, h => by
    obtain ⟨a, vs, h1, h2, h3⟩ := h
    exact ⟨a, vs, h1, h2.mono f, RDs.mono p f h3⟩
theorem RDs.mono {K : PySem.W.Frag} {m m' : List Addr} {H H' : Hp} (p : m <+: m') (f : Frz H H') : ∀ {ds : List D} {vs : List V}, RDs K m H ds vs → RDs K m' H' ds vs
  | [], _, h => h
  | d :: ds, _, h => by
    obtain ⟨v, r, h1, h2, h3⟩ := h
    exact ⟨v, r, h1, RD.mono p f h2, RDs.mono p f h3⟩
end
theorem TupAt.step {K : PySem.W.Frag} {m m' : List Addr} {H H' : Hp} {a : Addr} {vs : List V} (s : Step m H m' H') (h : TupAt K H a vs) : TupAt K H' a vs := h.mono s.frz
theorem RD.step {K : PySem.W.Frag} {m m' : List Addr} {H H' : Hp} (s : Step m H m' H') {d : D} {v : V} (h : RD K m H d v) : RD K m' H' d v := h.mono s.pre s.frz
theorem RDs.step {K : PySem.W.Frag} {m m' : List Addr} {H H' : Hp} (s : Step m H m' H') {d : List D} {v : List V} (h : RDs K m H d v) : RDs K m' H' d v := h.mono s.pre s.frz
theorem RDs.length {K : PySem.W.Frag} {m : List Addr} {H : Hp} : ∀ {ds : List D} {vs : List V}, RDs K m H ds vs → vs.length = ds.length
  | [], _, h => by rw [show _ = [] from h]; rfl
  | d :: ds, _, h => by
    obtain ⟨v, r, rfl, _, h3⟩ := h
    simp [RDs.length h3]
theorem RDs.get {K : PySem.W.Frag} {m : List Addr} {H : Hp} : ∀ {ds : List D} {vs : List V} {i : Nat} {d : D}, RDs K m H ds vs → ds[i]? = some d → ∃ v, vs[i]? = some v ∧ RD K m H d v
  | [], _, _, _, _, e => by simp at e
  | d :: ds, _, 0, x, h, e => by
    obtain ⟨v, r, rfl, h2, _⟩ := h
    simp at e; subst e
    exact ⟨v, rfl, h2⟩
  | d :: ds, _, i + 1, x, h, e => by
    obtain ⟨v, r, rfl, _, h3⟩ := h
    obtain ⟨u, h4, h5⟩ := RDs.get (i := i) h3 (by simpa using e)
    exact ⟨u, by simpa using h4, h5⟩
theorem RDs.append {K : PySem.W.Frag} {m : List Addr} {H : Hp} : ∀ {ds es : List D} {vs us : List V}, RDs K m H ds vs → RDs K m H es us → RDs K m H (ds ++ es) (vs ++ us)
  | [], _, _, _, h, h' => by rw [show _ = [] from h]; exact h'
  | d :: ds, _, _, _, h, h' => by
    obtain ⟨v, r, rfl, h2, h3⟩ := h
    exact ⟨v, r ++ _, rfl, h2, RDs.append h3 h'⟩
theorem RDs.one {K : PySem.W.Frag} {m : List Addr} {H : Hp} {d : D} {v : V} (h : RD K m H d v) : RDs K m H [d] [v] := ⟨v, [], rfl, h, rfl⟩
theorem RDs.drop {K : PySem.W.Frag} {m : List Addr} {H : Hp} : ∀ {ds : List D} {vs : List V} (n : Nat), RDs K m H ds vs → RDs K m H (ds.drop n) (vs.drop n)
  | ds, vs, 0, h => h
  | [], _, n + 1, h => by rw [show _ = [] from h]; rfl
  | d :: ds, _, n + 1, h => by
    obtain ⟨v, r, rfl, _, h3⟩ := h
    exact RDs.drop n h3
theorem RDs.take {K : PySem.W.Frag} {m : List Addr} {H : Hp} : ∀ {ds : List D} {vs : List V} (n : Nat), RDs K m H ds vs → RDs K m H (ds.take n) (vs.take n)
  | ds, vs, 0, h => rfl
  | [], _, n + 1, h => by rw [show _ = [] from h]; rfl
  | d :: ds, _, n + 1, h => by
    obtain ⟨v, r, rfl, h2, h3⟩ := h
    exact ⟨v, r.take n, rfl, h2, RDs.take n h3⟩
theorem RDs.set {K : PySem.W.Frag} {m : List Addr} {H : Hp} {d : D} {v : V} (hd : RD K m H d v) : ∀ {ds : List D} {vs : List V} (n : Nat), RDs K m H ds vs → RDs K m H (ds.set n d) (vs.set n v)
  | [], _, n, h => by rw [show _ = [] from h]; rfl
  | x :: ds, _, 0, h => by
    obtain ⟨u, r, rfl, h2, h3⟩ := h
    exact ⟨v, r, rfl, hd, h3⟩
  | x :: ds, _, n + 1, h => by
    obtain ⟨u, r, rfl, h2, h3⟩ := h
    exact ⟨u, r.set n v, rfl, h2, RDs.set hd n h3⟩
theorem RDs.eraseIdx {K : PySem.W.Frag} {m : List Addr} {H : Hp} : ∀ {ds : List D} {vs : List V} (n : Nat), RDs K m H ds vs → RDs K m H (ds.eraseIdx n) (vs.eraseIdx n)
  | [], _, n, h => by rw [show _ = [] from h]; rfl
  | x :: ds, _, 0, h => by
    obtain ⟨u, r, rfl, h2, h3⟩ := h
    exact h3
  | x :: ds, _, n + 1, h => by
    obtain ⟨u, r, rfl, h2, h3⟩ := h
    exact ⟨u, r.eraseIdx n, rfl, h2, RDs.eraseIdx n h3⟩
/-- a cell of the store at an address -/
def CellAt (K : PySem.W.Frag) (m : List Addr) (H : Hp) (a : Addr) : Cell → Prop
  | .lst ds => ∃ vs, H a = some (.lst vs) ∧ RDs K m H ds vs
  | .fz ds => ∃ vs o, H a = some (.frz o (.lst vs)) ∧ RDs K m H ds vs
  | .dct _ => False
  | .obj _ _ => False
theorem CellAt.some {K : PySem.W.Frag} {m : List Addr} {H : Hp} {a : Addr} {c : Cell} (h : CellAt K m H a c) : ∃ o, H a = some o := by
  cases c with
  | lst ds => obtain ⟨vs, h, _⟩ := h; exact ⟨_, h⟩
  | fz ds => obtain ⟨vs, o, h, _⟩ := h; exact ⟨_, h⟩
  | dct _ => exact h.elim
  | obj _ _ => exact h.elim
structure Rel (K : PySem.W.Frag) (m : List Addr) (S : Store) (H : Hp) : Prop where
  len : m.length = S.length
  nd : m.Nodup
  at_ : ∀ (n : Nat) a c, m[n]? = some a → S[n]? = some c → CellAt K m H a c
section
variable {K : PySem.W.Frag} {m m' : List Addr} {S : Store} {H H' : Hp}
theorem CellAt.mono {a : Addr} {c : Cell} (p : m <+: m') (f : Frz H H') (e : H' a = H a) (h : CellAt K m H a c) : CellAt K m' H' a c := by
  cases c with
  | lst ds => obtain ⟨vs, h, r⟩ := h; exact ⟨vs, e.trans h, r.mono p f⟩
  | fz ds => obtain ⟨vs, o, h, r⟩ := h; exact ⟨vs, o, e.trans h, r.mono p f⟩
  | dct _ => exact h.elim
  | obj _ _ => exact h.elim
theorem CellAt.step {a : Addr} {c : Cell} (s : Step m H m' H') (e : H' a = H a) (h : CellAt K m H a c) : CellAt K m' H' a c := h.mono s.pre s.frz e
theorem Rel.mem (r : Rel K m S H) {a : Addr} (h : a ∈ m) : ∃ o, H a = some o := by
  obtain ⟨n, hn, e⟩ := List.getElem_of_mem h
  have h1 : m[n]? = some a := by rw [List.getElem?_eq_getElem hn, e]
  have h2 : n < S.length := r.len ▸ hn
  exact (r.at_ n a _ h1 (List.getElem?_eq_getElem h2)).some
theorem Rel.fresh (r : Rel K m S H) {a : Addr} (h : H a = none) : a ∉ m := fun z => by
  obtain ⟨o, e⟩ := r.mem z
  rw [h] at e; cases e
/-- the store's own stands as it was -/
theorem Rel.same (r : Rel K m S H) (s : Step m H m H') (e : ∀ a ∈ m, H' a = H a) : Rel K m S H' :=
  ⟨r.len, r.nd, fun n a c h1 h2 => (r.at_ n a c h1 h2).step s (e a (List.mem_of_getElem? h1))⟩
/-- something new that is not in the store -/
theorem step_new {p : Addr} {o : HO} (h : H p = none) : Step m H m (upd H p o) :=
  ⟨List.prefix_refl m, fun _ h => .inl h, fun a u e _ => by rw [upd_ne (ne_of_none e h)]; exact e, fun a u w e => by rw [upd_ne (ne_of_none e h)]; exact e⟩
theorem Rel.new {p : Addr} {o : HO} (r : Rel K m S H) (h : H p = none) : Rel K m S (upd H p o) :=
  r.same (step_new h) fun a ha => upd_ne fun e => r.fresh h (e ▸ ha)
/-- a new cell -/
theorem step_alloc {p : Addr} {o : HO} (h : H p = none) : Step m H (m ++ [p]) (upd H p o) :=
  ⟨List.prefix_append m [p], fun a ha => by
    rcases List.mem_append.mp ha with z | z
    · exact .inl z
    · rw [List.mem_singleton.mp z]; exact .inr h, fun a u e _ => by rw [upd_ne (ne_of_none e h)]; exact e, fun a u w e => by rw [upd_ne (ne_of_none e h)]; exact e⟩
theorem Rel.alloc {p : Addr} {ds : List D} {vs : List V} (r : Rel K m S H) (h : H p = none) (q : RDs K m H ds vs) : Rel K (m ++ [p]) (S ++ [.lst ds]) (upd H p (.lst vs)) := by
  have st : Step m H (m ++ [p]) (upd H p (.lst vs)) := step_alloc h
  refine ⟨by simp [r.len], ?_, fun n a c h1 h2 => ?_⟩
  · rw [List.nodup_append]
    refine ⟨r.nd, by simp, fun a ha b hb e => ?_⟩
    rw [List.mem_singleton.mp hb] at e
    exact r.fresh h (e ▸ ha)
  · by_cases hn : n < m.length
    · rw [List.getElem?_append_left hn] at h1
      rw [List.getElem?_append_left (r.len ▸ hn)] at h2
      exact (r.at_ n a c h1 h2).step st (upd_ne fun e => r.fresh h (e ▸ List.mem_of_getElem? h1))
    · have hl : n = m.length := by
        have := (List.getElem?_eq_some_iff.mp h1).1
        simp at this; omega
      subst hl
      rw [List.getElem?_append_right (Nat.le_refl _), Nat.sub_self] at h1
      rw [List.getElem?_append_right (by rw [r.len]; exact Nat.le_refl _), r.len, Nat.sub_self] at h2
      simp at h1 h2
      subst h1 h2
      exact ⟨vs, upd_same, q.step st⟩
/-- a list of the store is written -/
theorem Rel.lst (r : Rel K m S H) {n : Nat} {a : Addr} {ds : List D} (h1 : m[n]? = some a) (h2 : S[n]? = some (.lst ds)) : ∃ vs, H a = some (.lst vs) ∧ RDs K m H ds vs := r.at_ n a _ h1 h2
theorem Rel.step_write (r : Rel K m S H) {n : Nat} {a : Addr} {ds : List D} {u : HO} (h1 : m[n]? = some a) (h2 : S[n]? = some (.lst ds)) : Step m H m (upd H a u) := by
  obtain ⟨vs, e, _⟩ := r.lst h1 h2
  refine ⟨List.prefix_refl m, fun _ h => .inl h, fun b o q hb => ?_, fun b o w q => ?_⟩
  · rw [upd_ne fun z => hb (by rw [z]; exact List.mem_of_getElem? h1)]; exact q
  · rw [upd_ne fun z => ?_]
    · exact q
    · rw [z, e] at q; cases q
theorem Rel.write (r : Rel K m S H) {n : Nat} {a : Addr} {ds ds' : List D} {vs' : List V} (h1 : m[n]? = some a) (h2 : S[n]? = some (.lst ds)) (q : RDs K m H ds' vs') : Rel K m (S.set n (.lst ds')) (upd H a (.lst vs')) := by
  have st : Step m H m (upd H a (.lst vs')) := r.step_write h1 h2
  have hn : n < S.length := (List.getElem?_eq_some_iff.mp h2).1
  refine ⟨by simp [r.len], r.nd, fun k b c e1 e2 => ?_⟩
  by_cases hk : k = n
  · subst hk
    rw [h1] at e1; cases e1
    rw [List.getElem?_set_self hn] at e2; cases e2
    exact ⟨vs', upd_same, q.step st⟩
  · rw [List.getElem?_set_ne (Ne.symm hk)] at e2
    refine (r.at_ k b c e1 e2).step st (upd_ne fun z => hk ?_)
    have i1 := (List.getElem?_eq_some_iff.mp e1)
    have i2 := (List.getElem?_eq_some_iff.mp h1)
    obtain ⟨l1, g1⟩ := i1
    obtain ⟨l2, g2⟩ := i2
    exact (List.getElem_inj r.nd).mp (g1.trans (z.trans g2.symm))
end
/-- the slots -/
def RS (K : PySem.W.Frag) (m : List Addr) (H : Hp) (ρ : Env) (σ : L2.St) : Prop := σ.length = ρ.length ∧ ∀ (i : Nat) d, ρ[i]? = some (some d) → ∃ v, σ[i]? = some (some v) ∧ RD K m H d v
theorem RS.step {K : PySem.W.Frag} {m m' : List Addr} {H H' : Hp} {ρ : Env} {σ : L2.St} (s : Step m H m' H') (r : RS K m H ρ σ) : RS K m' H' ρ σ :=
  ⟨r.1, fun i d e => let ⟨v, h1, h2⟩ := r.2 i d e; ⟨v, h1, h2.step s⟩⟩
theorem RS.set {K : PySem.W.Frag} {m : List Addr} {H : Hp} {ρ : Env} {σ : L2.St} {d : D} {v : V} (i : Nat) (r : RS K m H ρ σ) (h : RD K m H d v) : RS K m H (ρ.set i (some d)) (σ.set i (some v)) := by
  refine ⟨by simp [r.1], fun j e hj => ?_⟩
  by_cases hij : i = j
  · subst hij
    have hl : i < ρ.length := by
      have := (List.getElem?_eq_some_iff.mp hj).1
      simpa using this
    rw [List.getElem?_set_self hl] at hj
    cases hj
    exact ⟨v, by rw [List.getElem?_set_self (r.1 ▸ hl)], h⟩
  · rw [List.getElem?_set_ne hij] at hj
    obtain ⟨u, h1, h2⟩ := r.2 j e hj
    exact ⟨u, by rw [List.getElem?_set_ne hij]; exact h1, h2⟩
theorem RS.setNone {K : PySem.W.Frag} {m : List Addr} {H : Hp} {ρ : Env} {σ : L2.St} (i : Nat) (r : RS K m H ρ σ) : RS K m H (ρ.set i none) (σ.set i none) := by
  refine ⟨by simp [r.1], fun j e hj => ?_⟩
  by_cases hij : i = j
  · subst hij
    have hl : i < ρ.length := by
      have := (List.getElem?_eq_some_iff.mp hj).1
      simpa using this
    rw [List.getElem?_set_self hl] at hj
    cases hj
  · rw [List.getElem?_set_ne hij] at hj
    obtain ⟨u, h1, h2⟩ := r.2 j e hj
    exact ⟨u, by rw [List.getElem?_set_ne hij]; exact h1, h2⟩
theorem RS.wipe {K : PySem.W.Frag} {m : List Addr} {H : Hp} {ρ : Env} {σ : L2.St} (r : RS K m H ρ σ) : ∀ vs : List Nat, RS K m H (wipeE ρ vs) (L2.wipe σ vs)
  | [] => r
  | v :: vs => RS.setNone v (RS.wipe r vs)

/-! ### the readings -/
section
variable (K : PySem.W.Frag)
def Post (m : List Addr) (H : Hp) (Q : VK) : D → Store → Prop := fun d S' => ∀ m' H' v, Step m H m' H' → Rel K m' S' H' → RD K m' H' d v → Q v H'
def PostL (m : List Addr) (H : Hp) (Q : List V → Hp → Prop) : List D → Store → Prop := fun ds S' => ∀ m' H' vs, Step m H m' H' → Rel K m' S' H' → RDs K m' H' ds vs → Q vs H'
def PostT (m : List Addr) (H : Hp) (Q : Bool → Hp → Prop) : Bool → Store → Prop := fun b S' => ∀ m' H', Step m H m' H' → Rel K m' S' H' → Q b H'
def tE (f : Ev) : TE := fun σ H Q => ∃ m S ρ, Rel K m S H ∧ RS K m H ρ σ ∧ goodR (f ρ S) (Post K m H Q)
def tL (f : LEv) : TA := fun σ H Q => ∃ m S ρ, Rel K m S H ∧ RS K m H ρ σ ∧ goodR (f ρ S) (PostL K m H Q)
def tT (f : TEv) : TT := fun σ H Q => ∃ m S ρ, Rel K m S H ∧ RS K m H ρ σ ∧ goodR (f ρ S) (PostT K m H Q)
def PostN (m : List Addr) (H : Hp) (N : L2.St → Hp → Prop) : Env → Store → Prop := fun ρ S' => ∀ m' H' σ, Step m H m' H' → Rel K m' S' H' → RS K m' H' ρ σ → N σ H'
def tS (f : SEv) : TS := fun D σ H => ∃ m S ρ, Rel K m S H ∧ RS K m H ρ σ ∧ goodS (f ρ S) (PostN K m H D.nx) (Post K m H D.rt)
/-- operations by values -/
def rO (f : D → D → Store → R D) : R2 := fun x y H Q => ∃ m S d e, Rel K m S H ∧ RD K m H d x ∧ RD K m H e y ∧ goodR (f d e S) (Post K m H Q)
def rU1 (f : D → Store → R D) : V → Hp → VK → Prop := fun x H Q => ∃ m S d, Rel K m S H ∧ RD K m H d x ∧ goodR (f d S) (Post K m H Q)
def rB (f : FSem) : List V → Hp → VK → Prop := fun xs H Q => ∃ m S ds, Rel K m S H ∧ RDs K m H ds xs ∧ goodR (f ds S) (Post K m H Q)
end
section
variable {K : PySem.W.Frag} {m m' : List Addr} {H H' : Hp} {S : Store} {σ : L2.St} {ρ : Env}
theorem Post.step {Q : VK} {d : D} (s : Step m H m' H') (h : Post K m H Q d S) : Post K m' H' Q d S := fun m2 H2 v s2 r q => h m2 H2 v (s.trans s2) r q
theorem Post.now {Q : VK} {d : D} {v : V} (h : Post K m H Q d S) (r : Rel K m S H) (q : RD K m H d v) : Q v H := h m H v (Step.refl m H) r q
theorem PostL.step {Q : List V → Hp → Prop} {d : List D} (s : Step m H m' H') (h : PostL K m H Q d S) : PostL K m' H' Q d S := fun m2 H2 v s2 r q => h m2 H2 v (s.trans s2) r q
theorem PostT.step {Q : Bool → Hp → Prop} {d : Bool} (s : Step m H m' H') (h : PostT K m H Q d S) : PostT K m' H' Q d S := fun m2 H2 s2 r => h m2 H2 (s.trans s2) r
theorem PostN.step {N : L2.St → Hp → Prop} {ρ : Env} (s : Step m H m' H') (h : PostN K m H N ρ S) : PostN K m' H' N ρ S := fun m2 H2 σ s2 r q => h m2 H2 σ (s.trans s2) r q
/-- go on behind an expression -/
theorem tE_on {f : Ev} {Q : VK} {P : D → Store → Prop} (r : Rel K m S H) (s : RS K m H ρ σ) (h : goodR (f ρ S) P)
    (k : ∀ d S1 m1 H1 v, P d S1 → Step m H m1 H1 → Rel K m1 S1 H1 → RS K m1 H1 ρ σ → RD K m1 H1 d v → Q v H1) : tE K f σ H Q :=
  ⟨m, S, ρ, r, s, h.mono fun d S1 p m1 H1 v st r1 q => k d S1 m1 H1 v p st r1 (s.step st) q⟩
theorem tL_on {f : LEv} {Q : List V → Hp → Prop} {P : List D → Store → Prop} (r : Rel K m S H) (s : RS K m H ρ σ) (h : goodR (f ρ S) P)
    (k : ∀ d S1 m1 H1 v, P d S1 → Step m H m1 H1 → Rel K m1 S1 H1 → RS K m1 H1 ρ σ → RDs K m1 H1 d v → Q v H1) : tL K f σ H Q :=
  ⟨m, S, ρ, r, s, h.mono fun d S1 p m1 H1 v st r1 q => k d S1 m1 H1 v p st r1 (s.step st) q⟩
theorem tT_on {f : TEv} {Q : Bool → Hp → Prop} {P : Bool → Store → Prop} (r : Rel K m S H) (s : RS K m H ρ σ) (h : goodR (f ρ S) P)
    (k : ∀ d S1 m1 H1, P d S1 → Step m H m1 H1 → Rel K m1 S1 H1 → RS K m1 H1 ρ σ → Q d H1) : tT K f σ H Q :=
  ⟨m, S, ρ, r, s, h.mono fun d S1 p m1 H1 st r1 => k d S1 m1 H1 p st r1 (s.step st)⟩
end
end T

set_option Elab.async false
set_option linter.all false
set_option maxRecDepth 100000
set_option maxHeartbeats 1000000
/-! Each construct: from the readings of its parts to its own reading. -/
namespace T
open PySem PySem.Spec PyProof.Rows L2
theorem line_eq : lineN = sizeLine := by rw [sizeLine_eq]; rfl
section
variable {X : Cx} {e a b c : Expr} {es rest : List Expr} {pos : Pos}
theorem _root_.L2.PE.weak {t t' : TE} (h : PE X e t) (k : ∀ σ H Q, t' σ H Q → t σ H Q) : PE X e t' := ⟨fun pins s σ H Q I q => h.run pins s σ H Q I (k _ _ _ q)⟩
theorem _root_.L2.PT.weak {t t' : TT} (h : PT X e t) (k : ∀ σ H Q, t' σ H Q → t σ H Q) : PT X e t' := ⟨fun pins s σ H Q I q => h.run pins s σ H Q I (k _ _ _ q)⟩
theorem _root_.L2.PW.weak {t t' : TT} (h : PW X e t) (k : ∀ σ H Q, t' σ H Q → t σ H Q) : PW X e t' := ⟨fun w pins s σ H Q I q => h.run w pins s σ H Q I (k _ _ _ q)⟩
theorem _root_.L2.PA.weak {t t' : TA} (h : PA X es t) (k : ∀ σ H Q, t' σ H Q → t σ H Q) : PA X es t' := ⟨fun p pins s σ H Q I q => h.run p pins s σ H Q I (k _ _ _ q)⟩
theorem _root_.L2.PS.weak {st : Stmt} {t t' : TS} (h : PS X st t) (k : ∀ D σ H, t' D σ H → t D σ H) : PS X st t' := ⟨fun pins s σ H D I q => h.run pins s σ H D I (k _ _ _ q)⟩
theorem _root_.L2.PSs.weak {st : List Stmt} {t t' : TS} (h : PSs X st t) (k : ∀ D σ H, t' D σ H → t D σ H) : PSs X st t' := ⟨fun pins s σ H D I q => h.run pins s σ H D I (k _ _ _ q)⟩
/-! ### expressions -/
theorem s_var {i : Nat} {x : Str} (hN : X.N[i]? = some x) (hv : Vis X.env.scope x) (hd : (x == ("__debug__" : Str)) = false) (hcd : (x == ("__classdict__" : Str)) = false) : PE X (.Name x pos) (tE X.K (eVar i)) := by
  refine L2.PE.weak (pe_var hN hv hd hcd) fun σ H Q ⟨m, S, ρ, r, rs, q⟩ => ?_
  unfold eVar at q
  split at q
  · rename_i d e1
    obtain ⟨v, h1, h2⟩ := rs.2 i d e1
    exact ⟨v, h1, Post.now q r h2⟩
  · exact q.elim
theorem s_c {e : Expr} {d : D} {v : V} (h : PE X e (tC v)) (hr : ∀ m H, RD X.K m H d v) : PE X e (tE X.K (eC d)) :=
  h.weak fun σ H Q ⟨m, S, ρ, r, rs, q⟩ => Post.now q r (hr m H)
theorem s_e2 {op : Operator} {f : D → D → Store → R D} {fa fb : Ev} (ho : OpR X (binaryOp op) (rO X.K f)) (ha : PE X a (tE X.K fa)) (hb : PE X b (tE X.K fb)) : PE X (.BinOp a op b pos) (tE X.K (e2 f fa fb)) := by
  refine L2.PE.weak (pe_op ho ha hb) fun σ H Q ⟨m, S, ρ, r, rs, q⟩ => ?_
  refine tE_on r rs (goodR_bind.mp q) fun d S1 m1 H1 v q1 st1 r1 rs1 d1 => ?_
  refine tE_on r1 rs1 (goodR_bind.mp q1) fun d' S2 m2 H2 v' q2 st2 r2 rs2 d2 => ?_
  exact ⟨m2, S2, d, d', r2, d1.step st2, d2, q2.mono fun y S3 p => Post.step (st1.trans st2) p⟩
theorem s_cmp {op : CmpOp} {f : D → D → Store → R D} {fa fb : Ev} (ho : OpR X (compareOp op) (rO X.K f)) (ha : PE X a (tE X.K fa)) (hb : PE X b (tE X.K fb)) (hm : behindInMarks op b = false) : PE X (.Compare a [op] [b] pos) (tE X.K (e2 f fa fb)) := by
  refine L2.PE.weak (pe_cmpR ho ha hb hm) fun σ H Q ⟨m, S, ρ, r, rs, q⟩ => ?_
  refine tE_on r rs (goodR_bind.mp q) fun d S1 m1 H1 v q1 st1 r1 rs1 d1 => ?_
  refine tE_on r1 rs1 (goodR_bind.mp q1) fun d' S2 m2 H2 v' q2 st2 r2 rs2 d2 => ?_
  exact ⟨m2, S2, d, d', r2, d1.step st2, d2, q2.mono fun y S3 p => Post.step (st1.trans st2) p⟩
/-- a bool's reading as a test's -/
theorem tB_of {f : Ev} {σ : L2.St} {H : Hp} {Q : Bool → Hp → Prop} (h : tT X.K (tB f) σ H Q) : tE X.K f σ H fun x H' => ∃ k, x = .bl k ∧ Q k H' := by
  obtain ⟨m, S, ρ, r, rs, q⟩ := h
  refine tE_on r rs (goodR_bind.mp q) fun d S1 m1 H1 v q1 st1 r1 rs1 d1 => ?_
  split at q1
  · rename_i k
    exact ⟨k, d1, q1 m1 H1 st1 r1⟩
  · exact q1.elim
theorem s_cmpT {op : CmpOp} {f : D → D → Store → R D} {fa fb : Ev} (ho : OpR X (compareOp op) (rO X.K f)) (ha : PE X a (tE X.K fa)) (hb : PE X b (tE X.K fb)) (hm : behindInMarks op b = false) : PT X (.Compare a [op] [b] pos) (tT X.K (tB (e2 f fa fb))) := by
  refine L2.PT.weak (pt_cmpR ho ha hb hm) fun σ H Q q => ?_
  obtain ⟨m, S, ρ, r, rs, q⟩ := tB_of q
  refine tE_on r rs (goodR_bind.mp q) fun d S1 m1 H1 v q1 st1 r1 rs1 d1 => ?_
  refine tE_on r1 rs1 (goodR_bind.mp q1) fun d' S2 m2 H2 v' q2 st2 r2 rs2 d2 => ?_
  exact ⟨m2, S2, d, d', r2, d1.step st2, d2, q2.mono fun y S3 p => Post.step (st1.trans st2) p⟩
theorem chain_on {f g : D → D → Store → R D} {fa fb fc : Ev} {σ : L2.St} {H : Hp} {Q : VK} (h : tE X.K (eChain f g fa fb fc) σ H Q) : tChain (rO X.K f) (rO X.K g) (tE X.K fa) (tE X.K fb) (tE X.K fc) σ H Q := by
  obtain ⟨m, S, ρ, r, rs, q⟩ := h
  refine tE_on r rs (goodR_bind.mp q) fun d S1 m1 H1 v q1 st1 r1 rs1 d1 => ?_
  refine tE_on r1 rs1 (goodR_bind.mp q1) fun d' S2 m2 H2 v' q2 st2 r2 rs2 d2 => ?_
  refine ⟨m2, S2, d, d', r2, d1.step st2, d2, (goodR_bind.mp q2).mono fun z S3 q3 m3 H3 u st3 r3 d3 => ?_⟩
  have st := (st1.trans st2).trans st3
  cases z with
  | bl k =>
    refine ⟨k, d3, ?_⟩
    cases k with
    | true =>
      rw [if_pos rfl]
      refine tE_on r3 (rs2.step st3) (goodR_bind.mp q3) fun w S4 m4 H4 u' q4 st4 r4 rs4 d4 => ?_
      exact ⟨m4, S4, d', w, r4, (d2.step st3).step st4, d4, q4.mono fun y S5 p => Post.step (st.trans st4) p⟩
    | false => exact q3 m3 H3 _ st r3 rfl
  | _ => exact q3.elim
theorem s_chain {op op' : CmpOp} {f g : D → D → Store → R D} {fa fb fc : Ev} (ho : OpR X (compareOp op) (rO X.K f)) (ho' : OpR X (compareOp op') (rO X.K g)) (ha : PE X a (tE X.K fa)) (hb : PE X b (tE X.K fb)) (hc : PE X c (tE X.K fc))
    (hm : lastMarks [op, op'] [b, c] = false) : PE X (.Compare a [op, op'] [b, c] pos) (tE X.K (eChain f g fa fb fc)) := (pe_chain ho ho' ha hb hc hm).weak fun _ _ _ q => chain_on q
theorem s_chainT {op op' : CmpOp} {f g : D → D → Store → R D} {fa fb fc : Ev} (ho : OpR X (compareOp op) (rO X.K f)) (ho' : OpR X (compareOp op') (rO X.K g)) (ha : PE X a (tE X.K fa)) (hb : PE X b (tE X.K fb)) (hc : PE X c (tE X.K fc))
    (hm : lastMarks [op, op'] [b, c] = false) : PT X (.Compare a [op, op'] [b, c] pos) (tT X.K (tB (eChain f g fa fb fc))) := (pt_chain ho ho' ha hb hc hm).weak fun _ _ _ q => chain_on (tB_of q)
theorem s_un {op : UnaryOp} {f : D → Store → R D} {fa : Ev} (ho : UnR X (unaryOp op) (rU1 X.K f)) (ha : PE X a (tE X.K fa)) : PE X (.UnaryOp op a pos) (tE X.K (e1 f fa)) := by
  refine L2.PE.weak (pe_un ho ha) fun σ H Q ⟨m, S, ρ, r, rs, q⟩ => ?_
  refine tE_on r rs (goodR_bind.mp q) fun d S1 m1 H1 v q1 st1 r1 rs1 d1 => ?_
  exact ⟨m1, S1, d, r1, d1, q1.mono fun y S3 p => Post.step st1 p⟩
theorem s_nil : PA X [] (tL X.K lNil) := pa_nil.weak fun σ H Q ⟨m, S, ρ, r, rs, q⟩ => q m H [] (Step.refl m H) r rfl
theorem s_cons {fa : Ev} {l : LEv} (ha : PE X a (tE X.K fa)) (hr : PA X es (tL X.K l)) (hs : starEach (a :: es) X.env = (false, eval a X.env) :: starEach es X.env) : PA X (a :: es) (tL X.K (lCons fa l)) := by
  refine L2.PA.weak (pa_cons ha hr hs) fun σ H Q ⟨m, S, ρ, r, rs, q⟩ => ?_
  refine tE_on r rs (goodR_bind.mp q) fun d S1 m1 H1 v q1 st1 r1 rs1 d1 => ?_
  refine tL_on r1 rs1 (goodR_bind.mp q1) fun d' S2 m2 H2 v' q2 st2 r2 rs2 d2 => ?_
  exact q2 m2 H2 (v :: v') (st1.trans st2) r2 ⟨v, v', rfl, d1.step st2, d2⟩
/-- a tuple: known not to have a dict -/
def tTupF (t : TA) : TE := fun σ H Q => t σ H fun xs H1 => xs.length ≤ sizeLine ∧ ∀ p o, o.dict = none → H1 p = none → Q (.ref p) (upd H1 p (.frz o (.tup xs)))
theorem pe_tupF {x1} {t : TA} (h : PA X es t) : PE X (.Tuple es x1 pos) (tTupF t) := by
  refine ⟨fun pins s σ H Q I hq => ?_⟩
  refine wpAny_Tuple_spliced (thn (h.run pos pins s σ H _ I hq) fun us s1 ⟨xs, H1, I1, r, z, q⟩ => ⟨by rw [← r.length]; exact z, ?_⟩)
  have hf : H1 s1.heap.objs.size = none := I1.hok.fresh (Nat.le_refl _)
  refine ⟨.ref s1.heap.objs.size, upd H1 s1.heap.objs.size (.frz { cls := .type "tuple", data := .seq us.toArray } (.tup xs)), I1.laid (t' := s1.toks) (fun b u e => Heap.get?_push_of_some _ e) (Nat.le_refl _) ?_, rfl, q _ _ rfl hf⟩
  exact ⟨Heap.get?_push_size _ rfl, z, us, r, ⟨_, Heap.get?_push_size _ rfl, rfl, _, rfl⟩⟩
theorem RD.newTup {K : PySem.W.Frag} {m : List Addr} {H : Hp} {ds : List D} {vs : List V} {p : Addr} {o : Obj} (hd : o.dict = none) (hp : H p = none) (r : RDs K m H ds vs) : RD K m (upd H p (.frz o (.tup vs))) (.tup ds) (.ref p) :=
  ⟨p, vs, rfl, .inl ⟨o, upd_same, hd⟩, r.step (step_new hp)⟩
theorem s_tup {x1} {l : LEv} (h : PA X es (tL X.K l)) : PE X (.Tuple es x1 pos) (tE X.K (eTup l)) := by
  refine L2.PE.weak (pe_tupF h) fun σ H Q ⟨m, S, ρ, r, rs, q⟩ => ?_
  refine tL_on r rs (goodR_bind.mp q) fun ds S1 m1 H1 vs q1 st1 r1 rs1 d1 => ?_
  split at q1
  · rename_i hz
    refine ⟨by rw [d1.length, ← line_eq]; exact hz, fun p o hd hp => ?_⟩
    exact q1 m1 _ _ (st1.trans (step_new hp)) (r1.new hp) (RD.newTup hd hp d1)
  · exact q1.elim
theorem RD.newRef {K : PySem.W.Frag} {m : List Addr} {S : Store} {H H' : Hp} {p : Addr} (r : Rel K m S H) : RD K (m ++ [p]) H' (.ref S.length) (.ref p) := ⟨p, by rw [← r.len]; simp, rfl⟩
theorem s_lst {l : LEv} (h : PA X es (tL X.K l)) : PE X (.List es pos) (tE X.K (eLst l)) := by
  refine L2.PE.weak (pe_lst h) fun σ H Q ⟨m, S, ρ, r, rs, q⟩ => ?_
  refine tL_on r rs (goodR_bind.mp q) fun ds S1 m1 H1 vs q1 st1 r1 rs1 d1 => ?_
  split at q1
  · rename_i hz
    refine ⟨by rw [d1.length, ← line_eq]; exact hz, fun p hp => ?_⟩
    exact q1 _ _ _ (st1.trans (step_alloc hp)) (r1.alloc hp d1) (RD.newRef r1)
  · exact q1.elim
/-! ### tests -/
theorem s_notT {f : TEv} (h : PT X a (tT X.K f)) : PT X (.UnaryOp .Not a pos) (tT X.K (tNot f)) := by
  refine L2.PT.weak (pt_not h) fun σ H Q ⟨m, S, ρ, r, rs, q⟩ => ?_
  exact tT_on r rs (goodR_bind.mp q) fun d S1 m1 H1 q1 st1 r1 rs1 => q1 m1 H1 st1 r1
theorem s_one {op : PySem.BoolOp} {f : TEv} (h : PT X a (tT X.K f)) : PW X (.BoolOp op [a] pos) (tT X.K f) := by
  cases op with
  | And => exact pw_and1 h
  | Or => exact pw_or1 h
theorem s_andT {f g : TEv} (ha : PT X a (tT X.K f)) (hb : PW X (.BoolOp .And (b :: rest) pos) (tT X.K g)) : PW X (.BoolOp .And (a :: b :: rest) pos) (tT X.K (T.tAnd f g)) := by
  refine L2.PW.weak (pw_and ha hb) fun σ H Q ⟨m, S, ρ, r, rs, q⟩ => ?_
  refine tT_on r rs (goodR_bind.mp q) fun d S1 m1 H1 q1 st1 r1 rs1 => ?_
  cases d with
  | true =>
    rw [if_pos rfl]
    exact ⟨m1, S1, ρ, r1, rs1, goodR.mono (show goodR (g ρ S1) _ from q1) fun d' S' p => PostT.step st1 p⟩
  | false =>
    rw [if_neg (by decide)]
    exact q1 m1 H1 st1 r1
theorem s_orT {f g : TEv} (ha : PT X a (tT X.K f)) (hb : PW X (.BoolOp .Or (b :: rest) pos) (tT X.K g)) : PW X (.BoolOp .Or (a :: b :: rest) pos) (tT X.K (T.tOr f g)) := by
  refine L2.PW.weak (pw_or ha hb) fun σ H Q ⟨m, S, ρ, r, rs, q⟩ => ?_
  refine tT_on r rs (goodR_bind.mp q) fun d S1 m1 H1 q1 st1 r1 rs1 => ?_
  cases d with
  | false =>
    rw [if_neg (by decide)]
    exact ⟨m1, S1, ρ, r1, rs1, goodR.mono (show goodR (g ρ S1) _ from q1) fun d' S' p => PostT.step st1 p⟩
  | true =>
    rw [if_pos rfl]
    exact q1 m1 H1 st1 r1
theorem truth_ok {K : PySem.W.Frag} {m : List Addr} {S : Store} {H : Hp} {d : D} {v : V} {k : Bool} (r : Rel K m S H) (h : RD K m H d v) (e : truth d S = some k) : TruV K v H k := by
  cases d with
  | non => cases h; cases e; rfl
  | bl b => cases h; cases e; rfl
  | int i => cases h; cases e; rfl
  | str x =>
    cases h
    have e : (if x.length ≤ lineN then Option.some (!x.isEmpty) else Option.none) = Option.some k := e
    split at e
    · rename_i hz
      cases e
      refine ⟨?_, ?_⟩
      · rw [← line_eq]; exact hz
      · show (!x.isEmpty) = ((((⟨x.toArray⟩ : Str).length : Nat) : Int) != 0)
        cases x with
        | nil => rfl
        | cons c r =>
          have h1 : (⟨(c :: r).toArray⟩ : Str).length = r.length + 1 := by show (c :: r).toArray.size = _; simp
          rw [h1]
          symm
          simp
          omega
    · cases e
  | tup ds =>
    obtain ⟨a, vs, rfl, ht, hr⟩ := h
    cases e
    refine .inr (.inl ⟨vs, ht.sq, ?_⟩)
    have := hr.length
    cases ds <;> cases vs <;> simp at this ⊢
  | ref n =>
    obtain ⟨a, hm, rfl⟩ := h
    have e : (match S[n]? with
      | Option.some (.lst l) => Option.some (!l.isEmpty)
      | Option.some (.fz l) => Option.some (!l.isEmpty)
      | Option.some (.dct l) => Option.some (!l.isEmpty)
      | _ => Option.none) = Option.some k := e
    split at e
    · rename_i l hS
      cases e
      obtain ⟨vs, hH, hr⟩ := r.at_ n a _ hm hS
      refine .inl ⟨vs, SqL.of hH, ?_⟩
      have := hr.length
      cases l <;> cases vs <;> simp at this ⊢
    · rename_i l hS
      cases e
      obtain ⟨vs, o, hH, hr⟩ := r.at_ n a _ hm hS
      refine .inl ⟨vs, .inl (.inr ⟨o, hH⟩), ?_⟩
      have := hr.length
      cases l <;> cases vs <;> simp at this ⊢
    · rename_i l hS
      exact (r.at_ n a _ hm hS).elim
    · cases e
theorem s_truth {f : Ev} (h : PE X a (tE X.K f)) (he : ∀ whole, isTrue a X.env whole = (do let v ← whole; standAt a.pos; holding [v] (truthy v))) : PT X a (tT X.K (tV f)) := by
  refine L2.PT.weak (pt_truth h he) fun σ H Q ⟨m, S, ρ, r, rs, q⟩ => ?_
  refine tE_on r rs (goodR_bind.mp q) fun d S1 m1 H1 v q1 st1 r1 rs1 d1 => ?_
  split at q1
  · rename_i k hk
    exact ⟨k, truth_ok r1 d1 hk, q1 m1 H1 st1 r1⟩
  · exact q1.elim
theorem s_if {f : TEv} {g k : Ev} (hc : PT X c (tT X.K f)) (ha : PE X a (tE X.K g)) (hb : PE X b (tE X.K k)) : PE X (.IfExp c a b pos) (tE X.K (eIf f g k)) := by
  refine L2.PE.weak (pe_ifExp hc ha hb) fun σ H Q ⟨m, S, ρ, r, rs, q⟩ => ?_
  refine tT_on r rs (goodR_bind.mp q) fun d S1 m1 H1 q1 st1 r1 rs1 => ?_
  cases d with
  | true => exact ⟨m1, S1, ρ, r1, rs1, goodR.mono (show goodR (g ρ S1) _ from q1) fun d' S' p => Post.step st1 p⟩
  | false => exact ⟨m1, S1, ρ, r1, rs1, goodR.mono (show goodR (k ρ S1) _ from q1) fun d' S' p => Post.step st1 p⟩
theorem s_oneV {op : PySem.BoolOp} {f : Ev} (h : PE X a (tE X.K f)) : PE X (.BoolOp op [a] pos) (tE X.K f) := pe_one h
theorem s_andV {f g : Ev} (ha : PE X a (tE X.K f)) (hb : PE X (.BoolOp .And (b :: rest) pos) (tE X.K g)) : PE X (.BoolOp .And (a :: b :: rest) pos) (tE X.K (eAnd f g)) := by
  refine L2.PE.weak (pe_and ha hb) fun σ H Q ⟨m, S, ρ, r, rs, q⟩ => ?_
  refine tE_on r rs (goodR_bind.mp q) fun d S1 m1 H1 v q1 st1 r1 rs1 d1 => ?_
  cases d with
  | bl k =>
    refine ⟨k, d1, ?_⟩
    cases k with
    | true => rw [if_pos rfl]; exact ⟨m1, S1, ρ, r1, rs1, goodR.mono (show goodR (g ρ S1) _ from q1) fun d' S' p => Post.step st1 p⟩
    | false => rw [if_neg (by decide)]; exact q1 m1 H1 _ st1 r1 rfl
  | _ => exact q1.elim
theorem s_orV {f g : Ev} (ha : PE X a (tE X.K f)) (hb : PE X (.BoolOp .Or (b :: rest) pos) (tE X.K g)) : PE X (.BoolOp .Or (a :: b :: rest) pos) (tE X.K (eOr f g)) := by
  refine L2.PE.weak (pe_or ha hb) fun σ H Q ⟨m, S, ρ, r, rs, q⟩ => ?_
  refine tE_on r rs (goodR_bind.mp q) fun d S1 m1 H1 v q1 st1 r1 rs1 d1 => ?_
  cases d with
  | bl k =>
    refine ⟨k, d1, ?_⟩
    cases k with
    | false => rw [if_neg (by decide)]; exact ⟨m1, S1, ρ, r1, rs1, goodR.mono (show goodR (g ρ S1) _ from q1) fun d' S' p => Post.step st1 p⟩
    | true => rw [if_pos rfl]; exact q1 m1 H1 _ st1 r1 rfl
  | _ => exact q1.elim
/-- not x as a value: x a bool -/
theorem s_notV {f : Ev} (ha : PE X a (tE X.K f)) : PE X (.UnaryOp .Not a pos) (tE X.K (eNot (tB f))) := by
  refine L2.PE.weak (pe_not ha) fun σ H Q ⟨m, S, ρ, r, rs, q⟩ => ?_
  refine tE_on r rs (goodR_bind.mp (goodR_bind.mp q)) fun d S1 m1 H1 v q1 st1 r1 rs1 d1 => ?_
  cases d with
  | bl k => exact ⟨k, d1, q1 m1 H1 _ st1 r1 rfl⟩
  | _ => exact q1.elim
/-! ### built-in calls -/
theorem s_callB {x : Str} {p : Pos} {id : String} {f : FSem} {l : LEv} (hc : CallR X (.builtin id) (rB X.K f)) (hg : Gl X x) (hm : X.mg x = none) (hv : bootBuiltins x = some (.builtin id)) (ha : PA X (e :: es) (tL X.K l)) (hn : x ≠ "__name__") (hdb : (x == ("__debug__" : Str)) = false)
    (he : starEach (e :: es) X.env = (false, eval e X.env) :: starEach es X.env) (hpl : (backTo pos (starEach es X.env)).any (·.1) = false) : PE X (.Call (.Name x p) (e :: es) [] pos) (tE X.K (eB f l)) := by
  refine L2.PE.weak (pe_callB hc hg hm hv ha hn hdb he hpl) fun σ H Q ⟨m, S, ρ, r, rs, q⟩ => ?_
  refine tL_on r rs (goodR_bind.mp q) fun ds S1 m1 H1 vs q1 st1 r1 rs1 d1 => ?_
  exact ⟨m1, S1, ds, r1, d1, q1.mono fun d' S' p => Post.step st1 p⟩
theorem s_callTy {x : Str} {p : Pos} {id : String} {f : FSem} {l : LEv} (hc : CallR X (.type id) (rB X.K f)) (hg : Gl X x) (hm : X.mg x = none) (hv : bootBuiltins x = some (.type id)) (ha : PA X (e :: es) (tL X.K l)) (hn : x ≠ "__name__") (hdb : (x == ("__debug__" : Str)) = false)
    (he : starEach (e :: es) X.env = (false, eval e X.env) :: starEach es X.env) (hpl : (backTo pos (starEach es X.env)).any (·.1) = false) : PE X (.Call (.Name x p) (e :: es) [] pos) (tE X.K (eB f l)) := by
  refine L2.PE.weak (pe_callTy hc hg hm hv ha hn hdb he hpl) fun σ H Q ⟨m, S, ρ, r, rs, q⟩ => ?_
  refine tL_on r rs (goodR_bind.mp q) fun ds S1 m1 H1 vs q1 st1 r1 rs1 d1 => ?_
  exact ⟨m1, S1, ds, r1, d1, q1.mono fun d' S' p => Post.step st1 p⟩
end
end T

set_option Elab.async false
set_option linter.all false
set_option maxRecDepth 100000
set_option maxHeartbeats 1000000
/-! Calls, targets, loops, comprehensions, statements. -/
namespace T
open PySem PySem.Spec PyProof.Rows L2
/-! ### what is dropped -/
mutual
theorem RD.flat {K : PySem.W.Frag} {m m' : List Addr} {H : Hp} : ∀ {d : D} {v : V}, d.flat = true → RD K m H d v → RD K m' H d v
  | .non, _, _, h => h
  | .bl _, _, _, h => h
  | .int _, _, _, h => h
  | .str _, _, _, h => h
  | .ref _, _, f, _ => by simp [D.flat] at f
  | .tup ds, _, f, h => by
    obtain ⟨a, vs, h1, h2, h3⟩ := h
    exact ⟨a, vs, h1, h2, RDs.flat (by simpa [D.flat] using f) h3⟩
theorem RDs.flat {K : PySem.W.Frag} {m m' : List Addr} {H : Hp} : ∀ {ds : List D} {vs : List V}, D.flatL ds = true → RDs K m H ds vs → RDs K m' H ds vs
  | [], _, _, h => h
  | d :: ds, _, f, h => by
    obtain ⟨v, r, h1, h2, h3⟩ := h
    have f' : d.flat = true ∧ D.flatL ds = true := by simpa [D.flatL] using f
    exact ⟨v, r, h1, RD.flat f'.1 h2, RDs.flat f'.2 h3⟩
end
mutual
theorem RD.back {K : PySem.W.Frag} {m m' : List Addr} {H H' : Hp} (p : m <+: m') : ∀ {d : D} {u v : V}, RD K m H d u → RD K m' H' d v → RD K m H' d v
  | .non, _, _, _, h => h
  | .bl _, _, _, _, h => h
  | .int _, _, _, _, h => h
  | .str _, _, _, _, h => h
  | .ref n, _, _, ⟨a, h1, _⟩, ⟨b, h3, h4⟩ => by
    obtain ⟨t, rfl⟩ := p
    have hn : n < m.length := (List.getElem?_eq_some_iff.mp h1).1
    rw [List.getElem?_append_left hn] at h3
    exact ⟨b, h3, h4⟩
  | .tup ds, _, _, ⟨_, _, _, _, h0⟩, ⟨a, vs, h1, h2, h3⟩ => ⟨a, vs, h1, h2, RDs.back p h0 h3⟩
theorem RDs.back {K : PySem.W.Frag} {m m' : List Addr} {H H' : Hp} (p : m <+: m') : ∀ {ds : List D} {us vs : List V}, RDs K m H ds us → RDs K m' H' ds vs → RDs K m H' ds vs
  | [], _, _, _, h => h
  | d :: ds, _, _, ⟨_, _, _, g1, g2⟩, ⟨v, r, h1, h2, h3⟩ => ⟨v, r, h1, RD.back p g1 h2, RDs.back p g2 h3⟩
end
theorem cell_back {K : PySem.W.Frag} {m m' : List Addr} {H H' : Hp} {a : Addr} {c c' : Cell} (p : m <+: m') (h : (c'.flat || sameCell c c') = true) (h1 : CellAt K m H a c) (h2 : CellAt K m' H' a c') : CellAt K m H' a c' := by
  rcases (Bool.or_eq_true _ _).mp h with f | f
  · cases c' with
    | lst ds => obtain ⟨vs, e, r⟩ := h2; exact ⟨vs, e, r.flat f⟩
    | fz ds => obtain ⟨vs, o, e, r⟩ := h2; exact ⟨vs, o, e, r.flat f⟩
    | dct _ => exact h2.elim
    | obj _ _ => exact h2.elim
  · cases c' with
    | lst ds =>
      cases c with
      | lst es =>
        have e := D.beqL_eq (show D.beqL es ds = true from f)
        subst e
        obtain ⟨us, _, q⟩ := h1
        obtain ⟨vs, e, r⟩ := h2
        exact ⟨vs, e, q.back p r⟩
      | _ => cases f
    | fz ds =>
      cases c with
      | fz es =>
        have e := D.beqL_eq (show D.beqL es ds = true from f)
        subst e
        obtain ⟨us, _, _, q⟩ := h1
        obtain ⟨vs, o, e, r⟩ := h2
        exact ⟨vs, o, e, q.back p r⟩
      | _ => cases f
    | dct _ => exact h2.elim
    | obj _ _ => exact h2.elim
theorem oldOk_get : ∀ {S S' : Store} {n : Nat} {c c' : Cell}, oldOk S S' = true → S[n]? = some c → S'[n]? = some c' → (c'.flat || sameCell c c') = true
  | [], _, _, _, _, _, h, _ => by simp at h
  | _ :: _, [], _, _, _, h, _, _ => by simp [oldOk] at h
  | a :: S, b :: S', 0, c, c', h, h1, h2 => by
    simp at h1 h2
    subst h1 h2
    have h' : ((b.flat || sameCell a b) && oldOk S S') = true := h
    exact (Bool.and_eq_true _ _ ▸ h').1
  | a :: S, b :: S', n + 1, c, c', h, h1, h2 => by
    have h' : ((b.flat || sameCell a b) && oldOk S S') = true := h
    exact oldOk_get (n := n) (Bool.and_eq_true _ _ ▸ h').2 (by simpa using h1) (by simpa using h2)
section
variable {K : PySem.W.Frag} {m1 m2 : List Addr} {S1 S2 : Store} {H1 H2 : Hp} {d : D} {v : V}
theorem rel_take (r1 : Rel K m1 S1 H1) (st : Step m1 H1 m2 H2) (r2 : Rel K m2 S2 H2) (ok : oldOk S1 S2 = true) : Rel K m1 (S2.take S1.length) H2 ∧ Step m1 H1 m1 H2 := by
  obtain ⟨t, rfl⟩ := st.pre
  have hl : (m1 ++ t).length = S2.length := r2.len
  have h1 : m1.length = S1.length := r1.len
  refine ⟨⟨by simp at hl ⊢; omega, r1.nd, fun n a c e1 e2 => ?_⟩, ⟨List.prefix_refl _, fun _ h => .inl h, st.keep, st.frz⟩⟩
  have hn : n < m1.length := (List.getElem?_eq_some_iff.mp e1).1
  have e3 : (m1 ++ t)[n]? = some a := by rw [List.getElem?_append_left hn]; exact e1
  have e4 : S2[n]? = some c := by
    rw [List.getElem?_take] at e2
    split at e2
    · exact e2
    · cases e2
  have hs : n < S1.length := by omega
  exact cell_back (List.prefix_append m1 t) (oldOk_get ok (List.getElem?_eq_getElem hs) e4) (r1.at_ n a _ e1 (List.getElem?_eq_getElem hs)) (r2.at_ n a c e3 e4)
theorem gc_ok (r1 : Rel K m1 S1 H1) (st : Step m1 H1 m2 H2) (r2 : Rel K m2 S2 H2) (q : RD K m2 H2 d v) : ∃ m3, Step m1 H1 m3 H2 ∧ Rel K m3 (gc S1 d S2).2 H2 ∧ RD K m3 H2 (gc S1 d S2).1 v := by
  unfold gc
  split
  · exact ⟨m2, st, r2, q⟩
  · rename_i ok
    obtain ⟨r3, s3⟩ := rel_take r1 st r2 ok
    split
    · rename_i f
      exact ⟨m1, s3, r3, q.flat f⟩
    · split
      · rename_i n _
        split
        · rename_i l hS
          split
          · rename_i hf
            have hf' := (Bool.and_eq_true _ _ ▸ hf)
            have hge : S1.length ≤ n := of_decide_eq_true hf'.2
            obtain ⟨a, e1, rfl⟩ := q
            obtain ⟨vs, e2, rl⟩ := r2.lst e1 hS
            have ham : a ∉ m1 := fun hm => by
              obtain ⟨t, rfl⟩ := st.pre
              obtain ⟨k, hk, e3⟩ := List.getElem_of_mem hm
              have e4 : (m1 ++ t)[k]? = some a := by rw [List.getElem?_append_left hk, List.getElem?_eq_getElem hk, e3]
              obtain ⟨l1, g1⟩ := List.getElem?_eq_some_iff.mp e4
              obtain ⟨l2, g2⟩ := List.getElem?_eq_some_iff.mp e1
              have : k = n := (List.getElem_inj r2.nd).mp (g1.trans g2.symm)
              have := r1.len
              omega
            have hfree : H1 a = none := by
              rcases st.new a (List.mem_of_getElem? e1) with z | z
              · exact (ham z).elim
              · exact z
            have fz : Frz H2 H2 := fun _ _ _ h => h
            refine ⟨m1 ++ [a], ⟨List.prefix_append _ _, fun b hb => ?_, st.keep, st.frz⟩, ⟨by simp [r3.len], ?_, fun k b c e3 e4 => ?_⟩, ⟨a, by rw [← r1.len]; simp, rfl⟩⟩
            · rcases List.mem_append.mp hb with z | z
              · exact .inl z
              · rw [List.mem_singleton.mp z]; exact .inr hfree
            · rw [List.nodup_append]
              exact ⟨r1.nd, by simp, fun x hx y hy e => ham (by rw [← List.mem_singleton.mp hy, ← e]; exact hx)⟩
            · by_cases hk : k < m1.length
              · rw [List.getElem?_append_left hk] at e3
                rw [List.getElem?_append_left (r3.len ▸ hk)] at e4
                exact (r3.at_ k b c e3 e4).mono (List.prefix_append _ _) fz rfl
              · have hl : k = m1.length := by
                  have := (List.getElem?_eq_some_iff.mp e3).1
                  simp at this; omega
                subst hl
                rw [List.getElem?_append_right (Nat.le_refl _), Nat.sub_self] at e3
                rw [List.getElem?_append_right (by rw [r3.len]; exact Nat.le_refl _), r3.len, Nat.sub_self] at e4
                simp at e3 e4
                subst e3 e4
                exact ⟨vs, e2, rl.flat hf'.1⟩
          · exact ⟨m2, st, r2, q⟩
        · exact ⟨m2, st, r2, q⟩
      · exact ⟨m2, st, r2, q⟩
end
end T

set_option Elab.async false
set_option linter.all false
set_option maxRecDepth 100000
set_option maxHeartbeats 1000000
namespace T
open PySem PySem.Spec PyProof.Rows L2
/-! ### calls of defs -/
def spOf (K : PySem.W.Frag) (n : Nat) (f : FSem) : Sp := fun vs H Q _ => vs.length = n ∧ ∃ m S ds, Rel K m S H ∧ RDs K m H ds vs ∧ goodR (f ds S) (Post K m H Q)
section
variable {X : Cx} {e a b c : Expr} {es rest : List Expr} {pos : Pos}
theorem goodR_gc {S1 : Store} {r : R D} {P : D → Store → Prop} : goodR (gcR S1 r) P ↔ goodR r fun d S' => P (gc S1 d S').1 (gc S1 d S').2 := by
  unfold gcR
  rw [goodR_bind]
  exact Iff.rfl
theorem post_gc {K : PySem.W.Frag} {m1 : List Addr} {S1 S2 : Store} {H1 : Hp} {Q : VK} {d : D} (r1 : Rel K m1 S1 H1) (h : Post K m1 H1 Q (gc S1 d S2).1 (gc S1 d S2).2) : Post K m1 H1 Q d S2 := fun m' H' v st r q => by
  obtain ⟨m3, s3, r3, q3⟩ := gc_ok r1 st r q
  exact h m3 H' v s3 r3 q3
theorem call_on {K : PySem.W.Frag} {n : Nat} {F : FSem} {l : LEv} {σ : L2.St} {H : Hp} {Q : VK} {E : XK} (h : tE K (eCall n F l) σ H Q) : tCall (spOf K n F) [] E (tL K l) σ H Q := by
  obtain ⟨m, S, ρ, r, rs, q⟩ := h
  refine tL_on r rs (goodR_bind.mp q) fun ds S1 m1 H1 vs q1 st1 r1 rs1 d1 => ?_
  split at q1
  · rename_i hn
    refine ⟨by rw [List.append_nil, d1.length]; exact hn, m1, S1, ds, r1, by rw [List.append_nil]; exact d1, (goodR_gc.mp q1).mono fun d S2 p => post_gc r1 (Post.step st1 p)⟩
  · exact q1.elim
theorem s_call {CX : CXT} {k n : Nat} {f : Addr} {fd : FuncData} {ps : List Str} {x : Str} {p : Pos} {F : FSem} {l : LEv} {E : XK} (G : FnOk X.prog X.w X.K X.mg X.base CX k f fd ps (spOf X.K n F)) (hr : Room k X.A) (hg : Gl X x) (hm : X.mg x = some (.ref f)) (hk : PySem.W.keepIn X.K (.ref f) = true)
    (hb : Binds X.K fd ps []) (hx : Passes CX X E) (ha : PA X (e :: es) (tL X.K l)) (hdb : (x == ("__debug__" : Str)) = false) (he : starEach (e :: es) X.env = (false, eval e X.env) :: starEach es X.env) (hpl : (backTo pos (starEach es X.env)).any (·.1) = false) :
    PE X (.Call (.Name x p) (e :: es) [] pos) (tE X.K (eCall n F l)) := (pe_call (E := E) G hr hg hm hk hb .nil hx ha hdb he hpl).weak fun _ _ _ q => call_on q
theorem s_call0 {CX : CXT} {k n : Nat} {f : Addr} {fd : FuncData} {ps : List Str} {x : Str} {p : Pos} {F : FSem} {E : XK} (G : FnOk X.prog X.w X.K X.mg X.base CX k f fd ps (spOf X.K n F)) (hr : Room k X.A) (hg : Gl X x) (hm : X.mg x = some (.ref f)) (hk : PySem.W.keepIn X.K (.ref f) = true)
    (hb : Binds X.K fd ps []) (hx : Passes CX X E) (hdb : (x == ("__debug__" : Str)) = false) :
    PE X (.Call (.Name x p) [] [] pos) (tE X.K (eCall n F lNil)) := (pe_call0 (E := E) G hr hg hm hk hb .nil hx hdb).weak fun σ H Q q => by
  have q2 := call_on (E := E) q
  obtain ⟨m, S, ρ, r, rs, q3⟩ := q2
  exact q3 m H [] (Step.refl m H) r rfl
/-! ### statements -/
theorem s_nilS : PSs X [] (tS X.K sNil) := pss_nil.weak fun D σ H ⟨m, S, ρ, r, rs, q⟩ => q m H σ (Step.refl m H) r rs
theorem s_seq {st : Stmt} {sts : List Stmt} {f g : SEv} (h1 : PS X st (tS X.K f)) (h2 : PSs X sts (tS X.K g)) : PSs X (st :: sts) (tS X.K (sSeq f g)) := by
  refine L2.PSs.weak (pss_cons h1 h2) fun D σ H ⟨m, S, ρ, r, rs, q⟩ => ?_
  refine ⟨m, S, ρ, r, rs, ?_⟩
  unfold sSeq at q
  cases e : f ρ S with
  | nx ρ1 S1 =>
    rw [e] at q
    intro m1 H1 σ1 st1 r1 rs1
    exact ⟨m1, S1, ρ1, r1, rs1, goodS.mono (show goodS (g ρ1 S1) _ _ from q) (fun _ _ p => PostN.step st1 p) fun _ _ p => Post.step st1 p⟩
  | rt d S1 => rw [e] at q; exact q
  | exc c d S1 => rw [e] at q; exact q
  | err => rw [e] at q; exact q
theorem s_ret {f : Ev} (h : PE X e (tE X.K f)) : PS X (.Return (some e) pos) (tS X.K (sRet f)) := by
  refine L2.PS.weak (ps_ret h) fun D σ H ⟨m, S, ρ, r, rs, q⟩ => ?_
  exact ⟨m, S, ρ, r, rs, (goodS_ofR.mp q).mono fun d S1 p => p⟩
theorem s_retN : PS X (.Return none pos) (tS X.K sRetN) := ps_retN.weak fun D σ H ⟨m, S, ρ, r, rs, q⟩ => Post.now (d := .non) (v := .non) q r rfl
theorem s_pass : PS X (.Pass pos) (tS X.K sNil) := ps_pass.weak fun D σ H ⟨m, S, ρ, r, rs, q⟩ => q m H σ (Step.refl m H) r rs
theorem s_doc {x j} {pos'} : PS X (.Expr (.Constant (.str x) j pos) pos') (tS X.K sNil) := ps_doc.weak fun D σ H ⟨m, S, ρ, r, rs, q⟩ => q m H σ (Step.refl m H) r rs
theorem s_never {st : Stmt} : PS X st (tS X.K sErr) := ps_never.weak fun D σ H ⟨m, S, ρ, r, rs, q⟩ => q
theorem s_drop {f : Ev} (h : PE X e (tE X.K f)) (hs : swapsWith e none pos.line X.env = pure false) : PS X (.Expr e pos) (tS X.K (sDrop f)) := by
  refine L2.PS.weak (ps_expr h hs) fun D σ H ⟨m, S, ρ, r, rs, q⟩ => ?_
  exact tE_on r rs (goodS_ofR.mp q) fun d S1 m1 H1 v q1 st1 r1 rs1 d1 => q1 m1 H1 σ st1 r1 rs1
theorem s_ifS {c : Expr} {xs ys : List Stmt} {t : TEv} {f g : SEv} (hc : PT X c (tT X.K t)) (ha : PSs X xs (tS X.K f)) (hb : PSs X ys (tS X.K g)) : PS X (.If c xs ys pos) (tS X.K (sIf t f g)) := by
  refine L2.PS.weak (ps_if hc ha hb) fun D σ H ⟨m, S, ρ, r, rs, q⟩ => ?_
  refine ⟨m, S, ρ, r, rs, ?_⟩
  unfold sIf at q
  cases e : t ρ S with
  | ok k S1 =>
    rw [e] at q
    intro m1 H1 st1 r1
    cases k with
    | true => rw [if_pos rfl]; exact ⟨m1, S1, ρ, r1, rs.step st1, goodS.mono (show goodS (f ρ S1) _ _ from q) (fun _ _ p => PostN.step st1 p) fun _ _ p => Post.step st1 p⟩
    | false => rw [if_neg (by decide)]; exact ⟨m1, S1, ρ, r1, rs.step st1, goodS.mono (show goodS (g ρ S1) _ _ from q) (fun _ _ p => PostN.step st1 p) fun _ _ p => Post.step st1 p⟩
  | exc c d S1 => rw [e] at q; exact q
  | err => rw [e] at q; exact q
/-! ### targets -/
/-- a value as a loop gives it out: as RD says, or a tuple of which no more is known than its items -/
def RDw (K : PySem.W.Frag) (m : List Addr) (H : Hp) (d : D) (v : V) : Prop := RD K m H d v ∨ ∃ ds a vs, d = .tup ds ∧ v = .ref a ∧ SqT K H a vs ∧ RDs K m H ds vs
theorem RDw.tup {K : PySem.W.Frag} {m : List Addr} {H : Hp} {ds : List D} {v : V} (h : RDw K m H (.tup ds) v) : ∃ a vs, v = .ref a ∧ SqT K H a vs ∧ RDs K m H ds vs := by
  rcases h with ⟨a, vs, h1, h2, h3⟩ | ⟨ds', a, vs, e, h1, h2, h3⟩
  · exact ⟨a, vs, h1, h2.sq, h3⟩
  · cases e; exact ⟨a, vs, h1, h2, h3⟩
/-! a target's reading: weak ones take what a loop gives out, too -/
/-- where two rows of slots may part -/
abbrev OffBy (sl : List Nat) (σ σ' : L2.St) : Prop := σ'.length = σ.length ∧ ∀ i, i ∉ sl → σ'[i]? = σ[i]?
structure GS (X : Cx) (tg : Expr) (t : Tg) (sl : List Nat) (weak : Bool) : Prop where
  ex : ∃ g : TG, PG X tg g ∧ ∀ (m : List Addr) (S : Store) (H : Hp) (ρ ρ' : Env) (σ : L2.St) (d : D) (v : V) (Q : L2.St → Hp → Prop), Rel X.K m S H → RS X.K m H ρ σ → (if weak = true then RDw X.K m H d v else RD X.K m H d v) → t d ρ S = some ρ' →
    (∀ σ', RS X.K m H ρ' σ' → OffBy sl σ σ' → Q σ' H) → g v σ H Q
structure GSs (X : Cx) (tgs : List Expr) (ts : Tgs) (sl : List Nat) : Prop where
  ex : ∃ g : TGs, PGs X tgs g ∧ ∀ (m : List Addr) (S : Store) (H : Hp) (ρ ρ' : Env) (σ : L2.St) (ds : List D) (vs : List V) (Q : L2.St → Hp → Prop), Rel X.K m S H → RS X.K m H ρ σ → RDs X.K m H ds vs → ts ds ρ S = some ρ' →
    (∀ σ', RS X.K m H ρ' σ' → OffBy sl σ σ' → Q σ' H) → g vs σ H Q
theorem g_name {i : Nat} {x : Str} (hN : X.N.Nodup) (hi : X.N[i]? = some x) (hx : Loc X.env.scope x) (hf : X.fn x = true ∨ X.env.scope.names.lookup x = some .local) : GS X (.Name x pos) (tgN i) [i] false := by
  refine ⟨gName i, pg_name hN hi hx hf, fun m S H ρ ρ' σ d v Q r rs q h k => ?_⟩
  unfold tgN at h
  split at h
  · cases h
    exact k _ (rs.set i q) ⟨by simp, fun j hj => List.getElem?_set_ne fun e => hj (by simp [e])⟩
  · cases h
theorem g_nil : GSs X [] tgNil [] := by
  refine ⟨gNil, pgs_nil, fun m S H ρ ρ' σ ds vs Q r rs q h k => ?_⟩
  cases ds with
  | nil => cases q; cases h; exact ⟨rfl, k σ rs ⟨rfl, fun _ _ => rfl⟩⟩
  | cons _ _ => cases h
theorem g_cons {t : Tg} {ts : Tgs} {s1 s2 : List Nat} (h1 : GS X e t s1 false) (h2 : GSs X es ts s2) (hs : (assignEach (e :: es) X.env).map (·.2) = assign e X.env :: (assignEach es X.env).map (·.2)) : GSs X (e :: es) (tgCons t ts) (s1 ++ s2) := by
  obtain ⟨g, hg, kg⟩ := h1.ex
  obtain ⟨gs, hgs, kgs⟩ := h2.ex
  refine ⟨gCons g gs, pgs_cons hg hgs hs, fun m S H ρ ρ' σ ds vs Q r rs q h k => ?_⟩
  cases ds with
  | nil => cases h
  | cons d ds =>
    obtain ⟨v, vr, rfl, q1, q2⟩ := q
    have h' : (match t d ρ S with | some ρ1 => ts ds ρ1 S | none => none) = some ρ' := h
    cases e1 : t d ρ S with
    | none => rw [e1] at h'; cases h'
    | some ρ1 =>
      rw [e1] at h'
      exact ⟨v, vr, rfl, kg m S H ρ ρ1 σ d v _ r rs (by simpa using q1) e1 fun σ1 rs1 l1 => kgs m S H ρ1 ρ' σ1 ds vr Q r rs1 q2 h' fun σ2 rs2 l2 => k σ2 rs2 ⟨l2.1.trans l1.1, fun j hj => (l2.2 j fun z => hj (List.mem_append_right _ z)).trans (l1.2 j fun z => hj (List.mem_append_left _ z))⟩⟩
theorem g_tup {es : List Expr} {k n : Nat} {ts : Tgs} {sl : List Nat} (hc : X.calm = true) (h : GSs X es ts sl) (hn : (assignEach es X.env).length = n) (hst : (assignEach es X.env).findIdx? (·.1) = none) (hlen : ∀ ds ρ S ρ', ts ds ρ S = some ρ' → ds.length = n) {weak : Bool} : GS X (.Tuple es k pos) (tgT ts) sl weak := by
  obtain ⟨g, hg, kg⟩ := h.ex
  refine ⟨gTup X.K n g, pg_tup hc hg hn hst, fun m S H ρ ρ' σ d v Q r rs q hh kk => ?_⟩
  have q' : RDw X.K m H d v := by
    cases weak with
    | true => simpa using q
    | false => exact .inl (by simpa using q)
  cases d with
  | tup ds =>
    obtain ⟨a, vs, rfl, h2, h3⟩ := q'.tup
    exact ⟨a, vs, rfl, h2, by rw [h3.length]; exact hlen _ _ _ _ hh, kg m S H ρ ρ' σ ds vs Q r rs h3 hh kk⟩
  | _ => cases hh
theorem s_asg {tg e : Expr} {t : Tg} {f : Ev} {sl : List Nat} {weak : Bool} (he : PE X e (tE X.K f)) (hg : GS X tg t sl weak) (hs : swapsWithSole [tg] e pos.line X.env = pure false) (hw : swappedStores [tg] e X.env = pure none) (h1 : (assignEach [tg] X.env).map (·.2) = [assign tg X.env]) :
    PS X (.Assign [tg] e pos) (tS X.K (sAsg t f)) := by
  obtain ⟨g, hg, kg⟩ := hg.ex
  refine L2.PS.weak (ps_asg he hg hs hw h1) fun D σ H ⟨m, S, ρ, r, rs, q⟩ => ?_
  refine tE_on r rs (goodS_ofR.mp q) fun d S1 m1 H1 v q1 st1 r1 rs1 d1 => ?_
  cases e1 : t d ρ S1 with
  | none => rw [e1] at q1; exact q1.elim
  | some ρ1 =>
    rw [e1] at q1
    refine kg m1 S1 H1 ρ ρ1 σ d v _ r1 rs1 ?_ e1 fun σ1 rs2 _ => q1 m1 H1 σ1 st1 r1 rs2
    cases weak with
    | true => exact (Or.inl d1 : RDw X.K m1 H1 d v)
    | false => simpa using d1
theorem s_set {i : Nat} {x : Str} {e : Expr} {pos' : Pos} {f : Ev} (hN : X.N.Nodup) (hi : X.N[i]? = some x) (hx : Loc X.env.scope x) (he : PE X e (tE X.K f)) (hs : swapsWith e (some (.Name x pos')) pos.line X.env = pure false) (hf : X.fn x = true ∨ X.env.scope.names.lookup x = some .local) :
    PS X (.Assign [.Name x pos'] e pos) (tS X.K (sAsg (tgN i) f)) := by
  refine L2.PS.weak (ps_set hN hi hx he hs hf) fun D σ H ⟨m, S, ρ, r, rs, q⟩ => ?_
  refine tE_on r rs (goodS_ofR.mp q) fun d S1 m1 H1 v q1 st1 r1 rs1 d1 => ?_
  unfold tgN at q1
  split at q1
  · rename_i ρ1 e1
    split at e1
    · cases e1
      exact q1 m1 H1 _ st1 r1 (rs1.set i d1)
    · cases e1
  · exact q1.elim
theorem s_aug {i : Nat} {x : Str} {e : Expr} {op : Operator} {pos' : Pos} {fo : D → D → Store → R D} {f : Ev} (hN : X.N.Nodup) (hi : X.N[i]? = some x) (hx : Loc X.env.scope x) (he : PE X e (tE X.K f)) (ho : OpR X (inplaceOp op) (rO X.K fo)) (hf : X.fn x = true ∨ X.env.scope.names.lookup x = some .local) :
    PS X (.AugAssign (.Name x pos') op e pos) (tS X.K (sAug i fo f)) := by
  have hp : PIp X op (rO X.K fo) := fun pins s σ H x y v u Q I rx ry h => ho pins s σ H x y v u Q I rx ry h
  refine L2.PS.weak (ps_aug hN hi hx he hp hf) fun D σ H ⟨m, S, ρ, r, rs, q⟩ => ?_
  unfold sAug at q
  split at q
  · rename_i x0 hx0
    obtain ⟨v0, hv0, d0⟩ := rs.2 i x0 hx0
    refine ⟨v0, hv0, tE_on r rs (goodS_ofR.mp q) fun d S1 m1 H1 v q1 st1 r1 rs1 d1 => ?_⟩
    refine ⟨m1, S1, x0, d, r1, d0.step st1, d1, (goodS_ofR.mp q1).mono fun z S2 p m2 H2 u st2 r2 d2 => ?_⟩
    exact p m2 H2 _ (st1.trans st2) r2 ((rs1.step st2).set i d2)
  · exact q.elim
/-! ### loops -/
/-- what is walked: the library's iterator and ours -/
structure ItSim (K : PySem.W.Frag) (J : L2.It) (at_ : Nat → Store → Option (Option D)) (m0 : List Addr) (H0 : Hp) (weak : Bool) : Prop where
  stop : ∀ m S H i, Step m0 H0 m H → Rel K m S H → at_ i S = some none → J.stop i H
  go : ∀ m S H i d, Step m0 H0 m H → Rel K m S H → at_ i S = some (some d) → J.go i H ∧ ∀ x H', J.yld i H x H' → Step m H m H' ∧ Rel K m S H' ∧ (if weak = true then RDw K m H' d x else RD K m H' d x)
def tI (K : PySem.W.Frag) (f : IEv) (weak : Bool) : TI := fun σ H R => ∃ m S ρ, Rel K m S H ∧ RS K m H ρ σ ∧ goodR (f ρ S) fun J S' => ∀ m' H' J', Step m H m' H' → Rel K m' S' H' → ItSim K J' J.at_ m' H' weak → R J' H'
theorem ItSim.up {K : PySem.W.Frag} {J : L2.It} {at_ : Nat → Store → Option (Option D)} {m0 m1 : List Addr} {H0 H1 : Hp} {weak : Bool} (s : Step m0 H0 m1 H1) (h : ItSim K J at_ m0 H0 weak) : ItSim K J at_ m1 H1 weak :=
  ⟨fun m S H i st r e => h.stop m S H i (s.trans st) r e, fun m S H i d st r e => h.go m S H i d (s.trans st) r e⟩
theorem for_on {at_ : Nat → Store → Option (Option D)} {sl : List Nat} {t : Tg} {g : TG} {f : SEv} {weak : Bool} {D : Ends} {J : L2.It} {m0 : List Addr} {H0 : Hp}
    (kg : ∀ (m : List Addr) (S : Store) (H : Hp) (ρ ρ' : Env) (σ : L2.St) (d : T.D) (v : V) (Q : L2.St → Hp → Prop), Rel X.K m S H → RS X.K m H ρ σ → (if weak = true then RDw X.K m H d v else RD X.K m H d v) → t d ρ S = some ρ' → (∀ σ', RS X.K m H ρ' σ' → OffBy sl σ σ' → Q σ' H) → g v σ H Q)
    (hJ : ItSim X.K J at_ m0 H0 weak) {n : Nat} {σ : L2.St} {ρ : Env} {S : Store} (r : Rel X.K m0 S H0) (rs : RS X.K m0 H0 ρ σ) (q : goodS (forL at_ t f n 0 ρ S) (PostN X.K m0 H0 D.nx) (Post X.K m0 H0 D.rt)) :
    ∃ W : Nat → Nat → L2.St → Hp → Prop, (∃ m, W 0 m σ H0) ∧ ∀ i m σ H, W i m σ H → (J.stop i H ∧ D.nx σ H) ∨ (J.go i H ∧ ∃ N : L2.St → Hp → Prop, (∀ σ' H', N σ' H' → ∃ m', m' < m ∧ W (i + 1) m' σ' H') ∧ ∀ x H', J.yld i H x H' → g x σ H' fun σ2 H2 => tS X.K f { D with nx := N, ct := N, bk := D.nx } σ2 H2) := by
  refine ⟨fun i k σ H => ∃ m S ρ, Step m0 H0 m H ∧ Rel X.K m S H ∧ RS X.K m H ρ σ ∧ goodS (forL at_ t f k i ρ S) (PostN X.K m H D.nx) (Post X.K m H D.rt), ⟨n, m0, S, ρ, Step.refl _ _, r, rs, q⟩, ?_⟩
  rintro i k σ H ⟨m, S, ρ, st, r, rs, q⟩
  cases k with
  | zero =>
    unfold forL at q
    split at q
    · rename_i e1
      exact .inl ⟨hJ.stop m S H i st r e1, q m H σ (Step.refl _ _) r rs⟩
    · exact q.elim
  | succ k =>
    unfold forL at q
    split at q
    · rename_i e1
      exact .inl ⟨hJ.stop m S H i st r e1, q m H σ (Step.refl _ _) r rs⟩
    · rename_i d e1
      obtain ⟨go, yl⟩ := hJ.go m S H i d st r e1
      cases e2 : t d ρ S with
      | none => rw [e2] at q; exact q.elim
      | some ρ1 =>
        rw [e2] at q
        dsimp only at q
        refine .inr ⟨go, fun σ' H' => ∃ m' S' ρ', Step m0 H0 m' H' ∧ Rel X.K m' S' H' ∧ RS X.K m' H' ρ' σ' ∧ goodS (forL at_ t f k (i + 1) ρ' S') (PostN X.K m' H' D.nx) (Post X.K m' H' D.rt), fun σ' H' h => ⟨k, Nat.lt_succ_self k, h⟩, fun x H' hy => ?_⟩
        obtain ⟨s1, r1, q1⟩ := yl x H' hy
        refine kg m S H' ρ ρ1 σ d x _ r1 (rs.step s1) q1 e2 fun σ1 rs1 _ => ?_
        refine ⟨m, S, ρ1, r1, rs1, ?_⟩
        cases e3 : f ρ1 S with
        | nx ρ2 S2 =>
          rw [e3] at q
          intro m2 H2 σ2 st2 r2 rs2
          have s2 := s1.trans st2
          exact ⟨m2, S2, ρ2, st.trans s2, r2, rs2, goodS.mono (show goodS (forL at_ t f k (i + 1) ρ2 S2) _ _ from q) (fun _ _ p => PostN.step s2 p) fun _ _ p => Post.step s2 p⟩
        | rt d' S2 => rw [e3] at q; exact Post.step s1 q
        | exc c d' S2 => rw [e3] at q; exact q.elim
        | err => rw [e3] at q; exact q.elim
    · exact q.elim
theorem s_for {tg iter : Expr} {body : List Stmt} {t : Tg} {it : IEv} {f : SEv} {sl : List Nat} {weak : Bool} (hp : PassesOwn (model X.prog X.w) X.A X.env X.xe) (hc : X.calm = true) (hi : PI X tg iter (tI X.K it weak)) (hg : GS X tg t sl weak) (hb : PSs X body (tS X.K f))
    (hs : ∀ x, foldedSetIterable iter X.env x = pure x) : PS X (.For tg iter body [] pos) (tS X.K (sFor t it f)) := by
  obtain ⟨g, hg, kg⟩ := hg.ex
  refine L2.PS.weak (ps_for hp hc hi hg hb hs) fun D σ H ⟨m, S, ρ, r, rs, q⟩ => ?_
  unfold sFor at q
  refine ⟨m, S, ρ, r, rs, ?_⟩
  cases e : it ρ S with
  | ok J S1 =>
    rw [e] at q
    intro m1 H1 J' st1 r1 hJ
    exact for_on kg hJ r1 (rs.step st1) (goodS.mono q (fun _ _ p => PostN.step st1 p) fun _ _ p => Post.step st1 p)
  | exc c d S1 => rw [e] at q; exact q.elim
  | err => rw [e] at q; exact q.elim
theorem s_while {c : Expr} {body : List Stmt} {t : TEv} {f : SEv} (hp : PassesOwn (model X.prog X.w) X.A X.env X.xe) (hc : PT X c (tT X.K t)) (hb : PSs X body (tS X.K f)) : PS X (.While c body [] pos) (tS X.K (sWhile t f)) := by
  refine L2.PS.weak (ps_while hp hc hb) fun D σ H ⟨m, S, ρ, r, rs, q⟩ => ?_
  unfold sWhile at q
  refine ⟨fun k σ H => ∃ m S ρ, Rel X.K m S H ∧ RS X.K m H ρ σ ∧ goodS (whL t f k ρ S) (PostN X.K m H D.nx) (Post X.K m H D.rt), ⟨_, m, S, ρ, r, rs, q⟩, ?_⟩
  rintro k σ H ⟨m, S, ρ, r, rs, q⟩
  cases k with
  | zero => exact q.elim
  | succ k =>
    unfold whL at q
    refine ⟨m, S, ρ, r, rs, ?_⟩
    cases e : t ρ S with
    | ok b S1 =>
      rw [e] at q
      intro m1 H1 st1 r1
      cases b with
      | false => rw [if_neg (by decide)]; exact q m1 H1 σ st1 r1 (rs.step st1)
      | true =>
        rw [if_pos rfl]
        dsimp only at q
        refine ⟨fun σ' H' => ∃ m' S' ρ', Rel X.K m' S' H' ∧ RS X.K m' H' ρ' σ' ∧ goodS (whL t f k ρ' S') (PostN X.K m' H' D.nx) (Post X.K m' H' D.rt), fun σ' H' h => ⟨k, Nat.lt_succ_self k, h⟩, m1, S1, ρ, r1, rs.step st1, ?_⟩
        cases e3 : f ρ S1 with
        | nx ρ2 S2 =>
          rw [e3] at q
          intro m2 H2 σ2 st2 r2 rs2
          have s2 := st1.trans st2
          exact ⟨m2, S2, ρ2, r2, rs2, goodS.mono (show goodS (whL t f k ρ2 S2) _ _ from q) (fun _ _ p => PostN.step s2 p) fun _ _ p => Post.step s2 p⟩
        | rt d' S2 => rw [e3] at q; exact Post.step st1 q
        | exc c d' S2 => rw [e3] at q; exact q.elim
        | err => rw [e3] at q; exact q.elim
    | exc c d S1 => rw [e] at q; exact q.elim
    | err => rw [e] at q; exact q.elim
end
end T

set_option Elab.async false
set_option linter.all false
set_option maxRecDepth 100000
set_option maxHeartbeats 1000000
/-! Comprehensions; what is walked. -/
namespace T
open PySem PySem.Spec PyProof.Rows L2
theorem wipe_off {σ σ2 : L2.St} {vs : List Nat} (h : OffBy vs (L2.wipe σ vs) σ2) : L2.wipe σ2 vs = L2.wipe σ vs := by
  have key : ∀ (τ : L2.St) (ws : List Nat) (i : Nat), (L2.wipe τ ws)[i]? = if i ∈ ws ∧ i < τ.length then some none else τ[i]? := by
    intro τ ws i
    induction ws with
    | nil => simp [L2.wipe]
    | cons w ws ih =>
      show ((L2.wipe τ ws).set w none)[i]? = _
      by_cases hw : w = i
      · subst hw
        by_cases hl : w < τ.length
        · rw [List.getElem?_set_self (by rw [wipe_length]; exact hl)]
          simp [hl]
        · have : ((L2.wipe τ ws).set w none)[w]? = none := by
            rw [List.getElem?_eq_none_iff]; simp [wipe_length]; omega
          rw [this]
          simp [hl]
      · rw [List.getElem?_set_ne hw, ih]
        have : i ≠ w := fun e => hw e.symm
        simp [this]
  apply List.ext_getElem?
  intro i
  rw [key σ2 vs i]
  obtain ⟨h1, h2⟩ := h
  rw [wipe_length] at h1
  by_cases hi : i ∈ vs
  · rw [key σ vs i, h1]
    by_cases hl : i < σ.length
    · simp [hi, hl]
    · simp [hl]
      have a1 : σ2[i]? = none := by rw [List.getElem?_eq_none_iff]; omega
      have a2 : σ[i]? = none := by rw [List.getElem?_eq_none_iff]; omega
      first | rw [a1, a2] | omega
  · rw [if_neg (fun z => hi z.1)]
    exact h2 i hi
theorem Step.free {K : PySem.W.Frag} {m m' : List Addr} {S' : Store} {H H' : Hp} {a : Addr} (s : Step m H m' H') (r : Rel K m' S' H') (h : H' a = none) : H a = none := by
  cases q : H a with
  | none => rfl
  | some o =>
    by_cases hm : a ∈ m
    · obtain ⟨t, rfl⟩ := s.pre
      obtain ⟨u, e⟩ := r.mem (List.mem_append_left t hm)
      rw [h] at e; cases e
    · rw [s.keep a o q hm] at h; cases h
/-- an object of ours, born behind the start, changes -/
theorem Step.over {m m' : List Addr} {H H' : Hp} {p : Addr} {u : HO} (s : Step m H m' H') (h0 : H p = none) : Step m H m' (upd H' p u) :=
  ⟨s.pre, s.new, fun a o e hm => by rw [upd_ne (ne_of_none e h0)]; exact s.keep a o e hm, fun a o w e => by rw [upd_ne (ne_of_none e h0)]; exact s.frz a o w e⟩
section
variable {X : Cx} {e a b c : Expr} {es rest : List Expr} {pos : Pos}
theorem lc_on {K : PySem.W.Frag} {at_ : Nat → Store → Option (Option T.D)} {t : Tg} {g : TG} {c : TEv} {f : Ev} {own : List Nat} {sl : List Nat} {weak : Bool} {J : L2.It} {m1 : List Addr} {S1 : Store} {H1 : Hp} {Q : VK} {σ : L2.St} {ρ : Env} {n : Nat}
    (kg : ∀ (m : List Addr) (S : Store) (H : Hp) (ρ ρ' : Env) (σ : L2.St) (d : T.D) (v : V) (Q : L2.St → Hp → Prop), Rel K m S H → RS K m H ρ σ → (if weak = true then RDw K m H d v else RD K m H d v) → t d ρ S = some ρ' → (∀ σ', RS K m H ρ' σ' → OffBy sl σ σ' → Q σ' H) → g v σ H Q)
    (hsl : ∀ i ∈ sl, i ∈ own) (hJ : ItSim K J at_ m1 H1 weak) (r1 : Rel K m1 S1 H1) (rs : RS K m1 H1 ρ σ)
    (q : goodR (lcL at_ t c f (wipeE ρ own) n 0 [] S1) fun l S2 => Post K m1 H1 Q (.ref S2.length) (S2 ++ [.lst l])) :
    ∀ D, H1 D = none → ∃ W : Nat → Nat → Hp → Prop, (∃ m, W 0 m (upd H1 D (.lst []))) ∧ ∀ i m H, W i m H → (J.stop i H ∧ Q (.ref D) H) ∨ (J.go i H ∧ ∃ Nx : Hp → Prop, (∀ H', Nx H' → ∃ m', m' < m ∧ W (i + 1) m' H') ∧ ∀ x H', J.yld i H x H' → g x (L2.wipe σ own) H' fun σ2 H2 => L2.wipe σ2 own = L2.wipe σ own ∧ tT K c σ2 H2 fun b H3 =>
      if b = true then tE K f σ2 H3 fun y H4 => ∃ acc, H4 D = some (.lst acc) ∧ acc.length < sizeLine ∧ Nx (upd H4 D (.lst (acc ++ [y]))) else Nx H3) := by
  intro D hD
  -- what holds between the turns
  refine ⟨fun i k H => ∃ m S acc vacc, Step m1 H1 m H ∧ Rel K m S H ∧ H D = some (.lst vacc) ∧ D ∉ m ∧ RDs K m H acc vacc ∧ goodR (lcL at_ t c f (wipeE ρ own) k i acc S) fun l S2 => Post K m1 H1 Q (.ref S2.length) (S2 ++ [.lst l]),
    ⟨n, m1, S1, [], [], step_new hD, r1.new hD, upd_same, r1.fresh hD, rfl, q⟩, ?_⟩
  rintro i k H ⟨m, S, acc, vacc, st, r, hv, hm, ra, q⟩
  have fin : Post K m1 H1 Q (.ref S.length) (S ++ [.lst acc]) → Q (.ref D) H := fun p => by
    refine p (m ++ [D]) H (.ref D) ⟨st.pre.trans (List.prefix_append _ _), fun x hx => ?_, st.keep, st.frz⟩ ⟨by simp [r.len], ?_, fun j x cc e1 e2 => ?_⟩ ⟨D, by rw [← r.len]; simp, rfl⟩
    · rcases List.mem_append.mp hx with z | z
      · exact st.new x z
      · rw [List.mem_singleton.mp z]; exact .inr hD
    · rw [List.nodup_append]
      exact ⟨r.nd, by simp, fun x hx y hy e => hm (by rw [← List.mem_singleton.mp hy, ← e]; exact hx)⟩
    · by_cases hj : j < m.length
      · rw [List.getElem?_append_left hj] at e1
        rw [List.getElem?_append_left (r.len ▸ hj)] at e2
        exact (r.at_ j x cc e1 e2).mono (List.prefix_append _ _) (fun _ _ _ h => h) rfl
      · have hl : j = m.length := by
          have := (List.getElem?_eq_some_iff.mp e1).1
          simp at this; omega
        subst hl
        rw [List.getElem?_append_right (Nat.le_refl _), Nat.sub_self] at e1
        rw [List.getElem?_append_right (by rw [r.len]; exact Nat.le_refl _), r.len, Nat.sub_self] at e2
        simp at e1 e2
        subst e1 e2
        exact ⟨vacc, hv, ra.mono (List.prefix_append _ _) fun _ _ _ h => h⟩
  cases k with
  | zero =>
    unfold lcL at q
    split at q
    · rename_i e1
      exact .inl ⟨hJ.stop m S H i st r e1, fin q⟩
    · exact q.elim
  | succ k =>
    unfold lcL at q
    split at q
    · rename_i e1
      exact .inl ⟨hJ.stop m S H i st r e1, fin q⟩
    · rename_i d e1
      obtain ⟨go, yl⟩ := hJ.go m S H i d st r e1
      cases e2 : t d (wipeE ρ own) S with
      | none => rw [e2] at q; exact q.elim
      | some ρ1 =>
        rw [e2] at q
        dsimp only at q
        refine .inr ⟨go, fun H' => ∃ m' S' acc' vacc', Step m1 H1 m' H' ∧ Rel K m' S' H' ∧ H' D = some (.lst vacc') ∧ D ∉ m' ∧ RDs K m' H' acc' vacc' ∧ goodR (lcL at_ t c f (wipeE ρ own) k (i + 1) acc' S') fun l S2 => Post K m1 H1 Q (.ref S2.length) (S2 ++ [.lst l]), fun H' h => ⟨k, Nat.lt_succ_self k, h⟩, fun x H' hy => ?_⟩
        obtain ⟨s1, rr1, q1⟩ := yl x H' hy
        have keepD : ∀ {ma mb : List Addr} {Ha Hb : Hp} {w : List V}, Step ma Ha mb Hb → Ha D = some (.lst w) → D ∉ ma → Hb D = some (.lst w) ∧ D ∉ mb := fun sx hx nx => ⟨sx.keep D _ hx nx, fun z => by
          rcases sx.new D z with w | w
          · exact nx w
          · rw [hx] at w; cases w⟩
        obtain ⟨hv1, _⟩ := keepD s1 hv hm
        have st1 := st.trans s1
        refine kg m S H' (wipeE ρ own) ρ1 (L2.wipe σ own) d x _ rr1 ((rs.step st1).wipe own) q1 e2 fun σ2 rs2 off => ⟨wipe_off ⟨off.1, fun j hj => off.2 j fun z => hj (hsl j z)⟩, ?_⟩
        refine tT_on rr1 rs2 (goodR_bind.mp q) fun tt S3 m3 H3 q3 st3 r3 rs3 => ?_
        obtain ⟨hv3, hm3⟩ := keepD st3 hv1 hm
        cases tt with
        | true =>
          rw [if_pos rfl]
          refine tE_on r3 rs3 (goodR_bind.mp q3) fun y S4 m4 H4 vy q4 st4 r4 rs4 d4 => ?_
          obtain ⟨hv4, hm4⟩ := keepD st4 hv3 hm3
          have ra4 : RDs K m4 H4 acc vacc := ((ra.step s1).step st3).step st4
          split at q4
          · rename_i hz
            have fz : Frz H4 (upd H4 D (.lst (vacc ++ [vy]))) := fun x o u h => by
              rw [upd_ne fun z => by rw [z, hv4] at h; cases h]; exact h
            refine ⟨vacc, hv4, by rw [ra.length, ← line_eq]; exact hz, m4, S4, acc ++ [y], vacc ++ [vy], ((st1.trans st3).trans st4).over hD, ?_, upd_same, hm4, (ra4.append (RDs.one d4)).mono (List.prefix_refl _) fz, q4⟩
            exact ⟨r4.len, r4.nd, fun j x cc g1 g2 => (r4.at_ j x cc g1 g2).mono (List.prefix_refl _) fz (upd_ne fun z => hm4 (z ▸ List.mem_of_getElem? g1))⟩
          · exact q4.elim
        | false =>
          rw [if_neg (by decide)]
          exact ⟨m3, S3, acc, vacc, st1.trans st3, r3, hv3, hm3, (ra.step s1).step st3, q3⟩
    · exact q.elim
theorem s_lc {elt tg iter : Expr} {ifs : List Expr} {scope : Scope} {own : List (Str × Nat)} {t : Tg} {it : IEv} {c : TEv} {f : Ev} {sl : List Nat} {weak : Bool} (hc : X.calm = true) (hN : X.N.Nodup) (hi : PI X tg iter (tI X.K it weak)) (ok : BlkOk X.N X.env.scope scope own)
    (hg : ∃ g : TG, (∀ (s : Shared) (H : Hp) (C : Addr) (cl : List (Str × Addr)) (fp : List Addr), PG (X.blk s H scope (compEnvC scope cl C X.env) fp) tg g) ∧
      ∀ (m : List Addr) (S : Store) (H : Hp) (ρ ρ' : Env) (σ : L2.St) (d : T.D) (v : V) (Q : L2.St → Hp → Prop), Rel X.K m S H → RS X.K m H ρ σ → (if weak = true then RDw X.K m H d v else RD X.K m H d v) → t d ρ S = some ρ' → (∀ σ', RS X.K m H ρ' σ' → OffBy sl σ σ' → Q σ' H) → g v σ H Q)
    (hsl : ∀ i ∈ sl, i ∈ own.map (·.2))
    (ht : ∀ (s : Shared) (H : Hp) (C : Addr) (cl : List (Str × Addr)) (fp : List Addr), PTs (X.blk s H scope (compEnvC scope cl C X.env) fp) ifs (tT X.K c))
    (he : ∀ (s : Shared) (H : Hp) (C : Addr) (cl : List (Str × Addr)) (fp : List Addr), PE (X.blk s H scope (compEnvC scope cl C X.env) fp) elt (tE X.K f)) (hs : ∀ x, foldedSetIterable iter X.env x = pure x) :
    PE X (.ListComp elt [⟨tg, iter, ifs, 0⟩] scope pos) (tE X.K (eLc (own.map (·.2)) t it c f)) := by
  obtain ⟨g, hg, kg⟩ := hg
  refine L2.PE.weak (pe_lc hc hN hi ok hg ht he hs) fun σ H Q ⟨m, S, ρ, r, rs, q⟩ => ?_
  refine ⟨m, S, ρ, r, rs, (goodR_bind.mp q).mono fun J S1 p m1 H1 J' st1 r1 hJ => ?_⟩
  exact lc_on kg hsl hJ r1 (rs.step st1) ((goodR_bind.mp p).mono fun l S2 p2 => Post.step st1 p2)
/-- name = [..] on one line -/
theorem s_setLc {i : Nat} {y : Str} {py : Pos} {spos : Pos} {elt tg iter : Expr} {ifs : List Expr} {scope : Scope} {own : List (Str × Nat)} {t : Tg} {it : IEv} {c : TEv} {f : Ev} {sl : List Nat} {weak : Bool} (hc : X.calm = true) (hN : X.N.Nodup) (hy : X.N[i]? = some y) (hyl : X.env.scope.names.lookup y = some .local)
    (hsw : swapsWith (.ListComp elt [⟨tg, iter, ifs, 0⟩] scope pos) (some (.Name y py)) spos.line X.env = pure true) (hi : PI X tg iter (tI X.K it weak)) (ok : BlkOk X.N X.env.scope scope own)
    (hg : ∃ g : TG, (∀ (s : Shared) (H : Hp) (C : Addr) (cl : List (Str × Addr)) (fp : List Addr), PG (X.blk s H scope (compEnvC scope cl C X.env) fp) tg g) ∧
      ∀ (m : List Addr) (S : Store) (H : Hp) (ρ ρ' : Env) (σ : L2.St) (d : T.D) (v : V) (Q : L2.St → Hp → Prop), Rel X.K m S H → RS X.K m H ρ σ → (if weak = true then RDw X.K m H d v else RD X.K m H d v) → t d ρ S = some ρ' → (∀ σ', RS X.K m H ρ' σ' → OffBy sl σ σ' → Q σ' H) → g v σ H Q)
    (hsl : ∀ i ∈ sl, i ∈ own.map (·.2))
    (ht : ∀ (s : Shared) (H : Hp) (C : Addr) (cl : List (Str × Addr)) (fp : List Addr), PTs (X.blk s H scope (compEnvC scope cl C X.env) fp) ifs (tT X.K c))
    (he : ∀ (s : Shared) (H : Hp) (C : Addr) (cl : List (Str × Addr)) (fp : List Addr), PE (X.blk s H scope (compEnvC scope cl C X.env) fp) elt (tE X.K f)) (hs : ∀ x, foldedSetIterable iter X.env x = pure x) :
    PS X (.Assign [.Name y py] (.ListComp elt [⟨tg, iter, ifs, 0⟩] scope pos) spos) (tS X.K (sAsg (tgN i) (eLc (own.map (·.2)) t it c f))) := by
  obtain ⟨g, hg, kg⟩ := hg
  refine L2.PS.weak (ps_setLc hc hN hy hyl hsw hi ok hg ht he hs) fun D σ H ⟨m, S, ρ, r, rs, q⟩ => ?_
  have q1 := goodS_ofR.mp q
  refine ⟨m, S, ρ, r, rs, (goodR_bind.mp q1).mono fun J S1 p m1 H1 J' st1 r1 hJ => ?_⟩
  refine lc_on (Q := fun x H1 => gName i x σ H1 D.nx) kg hsl hJ r1 (rs.step st1) ((goodR_bind.mp p).mono fun l S2 p2 => ?_)
  intro m2 H2 v st2 r2 d2
  have p3 : goodS (match tgN i (.ref S2.length) ρ (S2 ++ [.lst l]) with | some ρ1 => SR.nx ρ1 (S2 ++ [.lst l]) | none => .err) (PostN X.K m H D.nx) (Post X.K m H D.rt) := p2
  unfold tgN at p3
  split at p3
  · rename_i ρ1 e1
    split at e1
    · cases e1
      exact p3 m2 H2 _ (st1.trans st2) r2 (((rs.step st1).step st2).set i d2)
    · cases e1
  · exact p3.elim
/-! ### what is walked -/
def cellL (c : Option Cell) : Option (List T.D) := match c with
  | some (.lst l) => some l
  | some (.fz l) => some l
  | _ => none
def seqIt (d : T.D) (S : Store) : Option It := match d with
  | .tup ds => some ⟨ds.length, fun i _ => some ds[i]?⟩
  | .str x => some ⟨x.length, fun i _ => some (x[i]?.map fun c => .str [c])⟩
  | .ref n => (cellL S[n]?).map fun l => ⟨l.length, fun i S' => (cellL S'[n]?).map fun l' => l'[i]?⟩
  | _ => none
def iSeq (e : Ev) : IEv := fun ρ S => (e ρ S).bind fun d S1 => match seqIt d S1 with
  | some J => .ok J S1
  | none => .err
theorem Rel.cellL {K : PySem.W.Frag} {m : List Addr} {S : Store} {H : Hp} {n : Nat} {a : Addr} {l : List T.D} (r : Rel K m S H) (h1 : m[n]? = some a) (h2 : T.cellL S[n]? = some l) : ∃ vs, SqL K H a vs ∧ RDs K m H l vs := by
  unfold T.cellL at h2
  split at h2
  · rename_i l' e
    cases h2
    obtain ⟨vs, g1, g2⟩ := r.at_ n a _ h1 e
    exact ⟨vs, SqL.of g1, g2⟩
  · rename_i l' e
    cases h2
    obtain ⟨vs, o, g1, g2⟩ := r.at_ n a _ h1 e
    exact ⟨vs, .inl (.inr ⟨o, g1⟩), g2⟩
  · cases h2
/-- a list, a tuple, a text: its iterator -/
theorem iter_ok {tg : Expr} {pins : List (Addr × Obj)} {σ : L2.St} {H : Hp} {s : Shared} {m : List Addr} {S : Store} {d : T.D} {v : V} {u : Value} {J : It} {R : L2.It → Hp → Prop} {E : Value → Shared → Prop} (I : Inv X pins σ H s) (r : Rel X.K m S H) (h : RD X.K m H d v) (ru : RelV v u) (e : seqIt d S = some J)
    (q : ∀ J', ItSim X.K J' J.at_ m H false → R J' H) : wpAny (model X.prog X.w) X.A (pyIter u) (PIE X pins σ tg R) E s := by
  cases d with
  | tup ds =>
    obtain ⟨a, vs, rfl, ht, hr⟩ := h
    cases ru
    cases e
    obtain ⟨its, rv, p, hz⟩ := I.tuple ht.sq
    refine wpAny_pyIter_tuple (show s.heap.IsTuple a its.toArray from p) ?_
    refine ⟨s.heap.objs.size, [s.heap.objs.size], _, _, H, rfl, I.kept (t' := s.toks) fun b o e => Heap.get?_push_of_some _ e, turn_tuple a _, ⟨_, Heap.get?_push_size _ rfl, rfl, rfl⟩, fun b hb => ?_, q _ ?_⟩
    · have e : b = s.heap.objs.size := by simpa using hb
      subst e
      exact I.fpOk (Nat.le_refl _) (I.hok.fresh (Nat.le_refl _))
    · refine ⟨fun m' S' H' i st r' e1 => ?_, fun m' S' H' i d st r' e1 => ?_⟩
      · have e1 : ds[i]? = none := Option.some.inj e1
        exact ⟨vs, (ht.step st).sq, by rw [hr.length]; exact List.getElem?_eq_none_iff.mp e1⟩
      · have e1 : ds[i]? = some d := Option.some.inj e1
        have hr' := hr.step st
        obtain ⟨y, g1, g2⟩ := hr'.get e1
        refine ⟨⟨vs, y, (ht.step st).sq, g1⟩, fun x H2 hy => ?_⟩
        obtain ⟨rfl, hx⟩ := hy
        have := hx vs (ht.step st).sq
        rw [g1] at this
        cases this
        exact ⟨Step.refl _ _, r', by simpa using g2⟩
  | str x =>
    cases h
    obtain ⟨t, rfl⟩ := ru
    cases e
    have sim : ItSim X.K (Its ⟨x.toArray⟩) (fun i _ => some (x[i]?.map fun c => T.D.str [c])) m H false := by
      refine ⟨fun m' S' H' i st r' e1 => ?_, fun m' S' H' i d st r' e1 => ?_⟩
      · have e1 : (x[i]?.map fun c => T.D.str [c]) = none := Option.some.inj e1
        have : x[i]? = none := by cases z : x[i]? with
          | none => rfl
          | some c => rw [z] at e1; cases e1
        show (⟨x.toArray⟩ : Str).cps.size ≤ i
        simpa using List.getElem?_eq_none_iff.mp this
      · have e1 : (x[i]?.map fun c => T.D.str [c]) = some d := Option.some.inj e1
        cases z : x[i]? with
        | none => rw [z] at e1; cases e1
        | some c =>
          rw [z] at e1
          cases e1
          refine ⟨?_, fun y H2 hy => ?_⟩
          · show i < (⟨x.toArray⟩ : Str).cps.size
            simpa using (List.getElem?_eq_some_iff.mp z).1
          · obtain ⟨rfl, c', hc', rfl⟩ := hy
            have hc2 : x[i]? = some c' := by simpa using hc'
            rw [z] at hc2
            cases hc2
            exact ⟨Step.refl _ _, r', by simp [RD]⟩
    cases ha : (⟨x.toArray⟩ : Str).cps.all (· < 128)
    · exact wpAny_pyIter_wide ha (pi_one (tk := s.toks) I _ (turn_str _ _ t "str_iterator" (.inr rfl)) ⟨_, Heap.get?_push_size _ rfl, rfl, rfl⟩ (q _ sim))
    · exact wpAny_pyIter_ascii ha (pi_one (tk := s.toks) I _ (turn_str _ _ t "str_ascii_iterator" (.inl rfl)) ⟨_, Heap.get?_push_size _ rfl, rfl, rfl⟩ (q _ sim))
  | ref n =>
    obtain ⟨a, hm, rfl⟩ := h
    cases ru
    have e' : (cellL S[n]?).map (fun l => (⟨l.length, fun i S' => (cellL S'[n]?).map fun l' => l'[i]?⟩ : It)) = some J := e
    cases z : cellL S[n]? with
    | none => rw [z] at e'; cases e'
    | some l =>
      rw [z] at e'
      cases e'
      obtain ⟨vs, hq, hr⟩ := r.cellL hm z
      obtain ⟨its, rv, p, hz⟩ := I.list hq
      refine wpAny_pyIter_list p.isList ?_
      refine ⟨s.heap.objs.size, [s.heap.objs.size], _, _, H, rfl, I.kept (t' := s.toks) fun b o e => Heap.get?_push_of_some _ e, turn_list a _, ⟨_, Heap.get?_push_size _ rfl, rfl, rfl⟩, fun b hb => ?_, q _ ?_⟩
      · have e : b = s.heap.objs.size := by simpa using hb
        subst e
        exact I.fpOk (Nat.le_refl _) (I.hok.fresh (Nat.le_refl _))
      · refine ⟨fun m' S' H' i st r' e1 => ?_, fun m' S' H' i d st r' e1 => ?_⟩
        · have e1 : (cellL S'[n]?).map (fun l' => l'[i]?) = some none := e1
          cases z' : cellL S'[n]? with
          | none => rw [z'] at e1; cases e1
          | some l' =>
            rw [z'] at e1
            have e1 : l'[i]? = none := Option.some.inj e1
            obtain ⟨vs', hq', hr'⟩ := r'.cellL (st.get hm) z'
            exact ⟨vs', hq', by rw [hr'.length]; exact List.getElem?_eq_none_iff.mp e1⟩
        · have e1 : (cellL S'[n]?).map (fun l' => l'[i]?) = some (some d) := e1
          cases z' : cellL S'[n]? with
          | none => rw [z'] at e1; cases e1
          | some l' =>
            rw [z'] at e1
            have e1 : l'[i]? = some d := Option.some.inj e1
            obtain ⟨vs', hq', hr'⟩ := r'.cellL (st.get hm) z'
            obtain ⟨y, g1, g2⟩ := hr'.get e1
            refine ⟨⟨vs', y, hq', g1⟩, fun x H2 hy => ?_⟩
            obtain ⟨rfl, hx⟩ := hy
            have := hx vs' hq'
            rw [g1] at this
            cases this
            exact ⟨Step.refl _ _, r', by simpa using g2⟩
  | non => cases e
  | bl _ => cases e
  | int _ => cases e
theorem i_seq {tg iter : Expr} {f : Ev} (h : PE X iter (tE X.K f)) : PI X tg iter (tI X.K (iSeq f) false) := by
  refine ⟨fun pins s σ H R I ⟨m, S, ρ, r, rs, q⟩ => ?_⟩
  have h1 : tE X.K f σ H fun v H1 => ∃ m1 S1 d J, Step m H m1 H1 ∧ Rel X.K m1 S1 H1 ∧ RD X.K m1 H1 d v ∧ seqIt d S1 = some J ∧ ∀ J', ItSim X.K J' J.at_ m1 H1 false → R J' H1 := by
    refine tE_on r rs (goodR_bind.mp q) fun d S1 m1 H1 v q1 st1 r1 rs1 d1 => ?_
    split at q1
    · rename_i J hJ
      exact ⟨m1, S1, d, J, st1, r1, d1, hJ, fun J' sim => q1 m1 H1 J' st1 r1 sim⟩
    · exact q1.elim
  exact thn (h.run pins s σ H _ I h1) fun u s1 ⟨v, H1, I1, ru, m1, S1, d, J, st1, r1, d1, hJ, k⟩ => iter_ok I1 r1 d1 ru hJ k
/-! ranges -/
def rngIt (lo hi : Int) : It := ⟨(hi - lo).toNat, fun i _ => some (if i < (hi - lo).toNat then some (.int (lo + i)) else none)⟩
def okR (j : Int) : Bool := decide (-4611686018427387904 ≤ j ∧ j < 4611686018427387904)
def iRng1 (l : LEv) : IEv := fun ρ S => (l ρ S).bind fun ds S1 => match ds with
  | [.int j] => if okR j = true then .ok (rngIt 0 j) S1 else .err
  | _ => .err
def iRng2 (l : LEv) : IEv := fun ρ S => (l ρ S).bind fun ds S1 => match ds with
  | [.int i, .int j] => if okR i = true ∧ okR j = true then .ok (rngIt i j) S1 else .err
  | _ => .err
theorem okR_of {j : Int} (h : okR j = true) : -(2 ^ 62) ≤ j ∧ j < 2 ^ 62 := by
  have := of_decide_eq_true h
  omega
theorem rng_sim {K : PySem.W.Frag} {lo hi : Int} {m : List Addr} {H : Hp} : ItSim K (Itr lo (hi - lo).toNat) (rngIt lo hi).at_ m H false := by
  refine ⟨fun m' S' H' i st r' e1 => ?_, fun m' S' H' i d st r' e1 => ?_⟩
  · have e1 : (if i < (hi - lo).toNat then some (T.D.int (lo + i)) else none) = none := Option.some.inj e1
    split at e1
    · cases e1
    · rename_i h; exact Nat.le_of_not_lt h
  · have e1 : (if i < (hi - lo).toNat then some (T.D.int (lo + i)) else none) = some d := Option.some.inj e1
    split at e1
    · rename_i h
      cases e1
      refine ⟨h, fun x H2 hy => ?_⟩
      obtain ⟨rfl, rfl⟩ := hy
      exact ⟨Step.refl _ _, r', by simp [RD]⟩
    · cases e1
theorem i_rng1 {tg : Expr} {p : Pos} {l : LEv} (hg : Gl X "range") (hm : X.mg "range" = none) (ha : PA X [a] (tL X.K l)) (hs : starEach [a] X.env = [(false, eval a X.env)]) : PI X tg (.Call (.Name "range" p) [a] [] pos) (tI X.K (T.iRng1 l) false) := by
  have h := pi_range1 (tg := tg) (p := p) (pos := pos) hg hm ha hs
  refine ⟨fun pins s σ H R I ⟨m, S, ρ, r, rs, q⟩ => h.run pins s σ H R I (tL_on r rs (goodR_bind.mp q) fun ds S1 m1 H1 vs q1 st1 r1 rs1 d1 => ?_)⟩
  split at q1
  · rename_i j
    split at q1
    · rename_i ok
      obtain ⟨v, vr, rfl, rfl, rfl⟩ := d1
      refine ⟨j, rfl, (okR_of ok).1, (okR_of ok).2, q1 m1 H1 _ st1 r1 ?_⟩
      have := rng_sim (K := X.K) (lo := 0) (hi := j) (m := m1) (H := H1)
      simpa using this
    · exact q1.elim
  · exact q1.elim
theorem i_rng2 {tg : Expr} {p : Pos} {l : LEv} (hg : Gl X "range") (hm : X.mg "range" = none) (ha : PA X [a, b] (tL X.K l)) (hs : starEach [a, b] X.env = [(false, eval a X.env), (false, eval b X.env)]) (hs2 : starEach [b] X.env = [(false, eval b X.env)]) : PI X tg (.Call (.Name "range" p) [a, b] [] pos) (tI X.K (T.iRng2 l) false) := by
  have h := pi_range2 (tg := tg) (p := p) (pos := pos) hg hm ha hs hs2
  refine ⟨fun pins s σ H R I ⟨m, S, ρ, r, rs, q⟩ => h.run pins s σ H R I (tL_on r rs (goodR_bind.mp q) fun ds S1 m1 H1 vs q1 st1 r1 rs1 d1 => ?_)⟩
  split at q1
  · rename_i i j
    split at q1
    · rename_i ok
      obtain ⟨v, vr, rfl, rfl, w, wr, rfl, rfl, rfl⟩ := d1
      exact ⟨i, j, rfl, ⟨(okR_of ok.1).1, (okR_of ok.1).2, (okR_of ok.2).1, (okR_of ok.2).2⟩, q1 m1 H1 _ st1 r1 rng_sim⟩
    · exact q1.elim
  · exact q1.elim
end
end T

set_option Elab.async false
set_option linter.all false
set_option maxRecDepth 100000
set_option maxHeartbeats 1000000
/-! The operations by values. -/
namespace T
open PySem PySem.Spec PyProof.Rows L2
/-! ### semantics -/
def mulOk (i j : Int) : Bool := decide (i.natAbs.log2 + j.natAbs.log2 + 2 ≤ 134217728)
def bAdd (x y : D) (S : Store) : R D := match x, y with
  | .int i, .int j => .ok (.int (i + j)) S
  | .str a, .str b => if a.length + b.length ≤ lineN then .ok (.str (a ++ b)) S else .err
  | .tup a, .tup b => if a.length + b.length ≤ lineN then .ok (.tup (a ++ b)) S else .err
  | .ref m, .ref n => match cellL S[m]?, cellL S[n]? with
    | some a, some b => if a.length + b.length ≤ lineN then .ok (.ref S.length) (S ++ [.lst (a ++ b)]) else .err
    | _, _ => .err
  | _, _ => .err
def bSub (x y : D) (S : Store) : R D := match x, y with
  | .int i, .int j => .ok (.int (i - j)) S
  | _, _ => .err
def bMul (x y : D) (S : Store) : R D := match x, y with
  | .int i, .int j => if mulOk i j = true then .ok (.int (i * j)) S else .err
  | _, _ => .err
def bDiv (x y : D) (S : Store) : R D := match x, y with
  | .int i, .int j => if 0 < j ∧ j.natAbs.log2 < 9000 then .ok (.int (i / j)) S else .err
  | _, _ => .err
def bMod (x y : D) (S : Store) : R D := match x, y with
  | .int i, .int j => if 0 < j then .ok (.int (i % j)) S else .err
  | _, _ => .err
def bPow (x y : D) (S : Store) : R D := match x, y with
  | .int i, .int j => if 0 ≤ j ∧ j ≤ 1000000 ∧ i.natAbs < 18446744073709551616 then .ok (.int (i ^ j.toNat)) S else .err
  | _, _ => .err
def uNeg (x : D) (S : Store) : R D := match x with
  | .int i => .ok (.int (-i)) S
  | _ => .err
def cInt (p : Int → Int → Bool) (x y : D) (S : Store) : R D := match x, y with
  | .int i, .int j => .ok (.bl (p i j)) S
  | _, _ => .err
def bLt : D → D → Store → R D := cInt fun i j => decide (i < j)
def bLe : D → D → Store → R D := cInt fun i j => decide (i ≤ j)
def bGt : D → D → Store → R D := cInt fun i j => decide (j < i)
def bGe : D → D → Store → R D := cInt fun i j => decide (j ≤ i)
/-! equality: what stands in the store, as data -/
mutual
def toPyG (g : Nat → Option PyData) : D → Option PyData
  | .non => some .none
  | .bl b => some (.bool b)
  | .int i => some (.int i)
  | .str x => some (.str ⟨x.toArray⟩)
  | .tup l => (toPysG g l).map .tuple
  | .ref k => g k
def toPysG (g : Nat → Option PyData) : List D → Option (List PyData)
  | [] => some []
  | d :: l => (toPyG g d).bind fun a => (toPysG g l).map fun b => a :: b
end
def toPyR : Nat → Store → Nat → Option PyData
  | 0, _, _ => none
  | n + 1, S, k => (cellL S[k]?).bind fun l => (toPysG (toPyR n S) l).map .list
def toPy (S : Store) (d : D) : Option PyData := toPyG (toPyR 8 S) d
def toPys (S : Store) (l : List D) : Option (List PyData) := toPysG (toPyR 8 S) l
def bEq (x y : D) (S : Store) : R D := match toPy S x, toPy S y with
  | some a, some b => if SeqAt.shaped a = true ∧ SeqAt.shaped b = true then .ok (.bl (PyData.eqv a b)) S else .err
  | _, _ => .err
def bNe (x y : D) (S : Store) : R D := match toPy S x, toPy S y with
  | some a, some b => if SeqAt.shaped a = true ∧ SeqAt.shaped b = true then .ok (.bl (!PyData.eqv a b)) S else .err
  | _, _ => .err
/-- is, is not: of None, True, False -/
def bIs (x y : D) (S : Store) : R D := match y with
  | .non => .ok (.bl (D.beq x .non)) S
  | .bl b => match x with
    | .bl a => .ok (.bl (decide (a = b))) S
    | _ => .err
  | _ => .err
def bIsNot (x y : D) (S : Store) : R D := match y with
  | .non => .ok (.bl (!D.beq x .non)) S
  | .bl b => match x with
    | .bl a => .ok (.bl (!decide (a = b))) S
    | _ => .err
  | _ => .err
/-- flat items: what == says -/
def eqF : D → D → Bool
  | .non, .non => true
  | .bl a, .bl b => a == b
  | .bl a, .int b => (if a then 1 else 0) == b
  | .int a, .bl b => a == (if b then 1 else 0)
  | .int a, .int b => a == b
  | .str a, .str b => decide (a = b)
  | _, _ => false
def flatD1 : D → Bool
  | .non => true
  | .bl _ => true
  | .int _ => true
  | .str _ => true
  | _ => false
def inB (x y : D) (S : Store) : Option Bool := match y with
  | .tup l => if flatD1 x = true ∧ l.all flatD1 = true then some (l.any fun z => eqF z x) else none
  | .ref n => match (cellL S[n]?).bind (toPys S), toPy S x with
    | some ds, some d => if SeqAt.shaped d = true ∧ SeqAt.shaped (.list ds) = true then some (ds.any fun z => PyData.eqv z d) else none
    | _, _ => none
  | _ => none
def bIn (x y : D) (S : Store) : R D := match inB x y S with
  | some b => .ok (.bl b) S
  | none => .err
def bNotIn (x y : D) (S : Store) : R D := match inB x y S with
  | some b => .ok (.bl (!b)) S
  | none => .err

/-! ### their rules -/
section
variable {K : PySem.W.Frag} {m : List Addr} {S : Store} {H : Hp}
mutual
theorem dp_G {g : Nat → Option PyData} (hg : ∀ k p a, g k = some p → m[k]? = some a → Dp K H (.ref a) p) : ∀ {d : D} {v : V} {p : PyData}, RD K m H d v → toPyG g d = some p → Dp K H v p
  | .non, _, _, h, e => by cases h; cases e; exact .non
  | .bl b, _, _, h, e => by cases h; cases e; exact .bl b
  | .int i, _, _, h, e => by cases h; cases e; exact .int i
  | .str x, _, _, h, e => by cases h; cases e; exact .str _
  | .ref k, _, _, h, e => by
    obtain ⟨a, h1, rfl⟩ := h
    exact hg k _ a e h1
  | .tup l, _, _, h, e => by
    obtain ⟨a, vs, rfl, ht, hr⟩ := h
    have e' : (toPysG g l).map PyData.tuple = _ := e
    cases z : toPysG g l with
    | none => rw [z] at e'; cases e'
    | some ps =>
      rw [z] at e'
      cases e'
      exact .tup ht.sq (dps_G hg hr z)
theorem dps_G {g : Nat → Option PyData} (hg : ∀ k p a, g k = some p → m[k]? = some a → Dp K H (.ref a) p) : ∀ {ds : List D} {vs : List V} {ps : List PyData}, RDs K m H ds vs → toPysG g ds = some ps → DpAll K H vs ps
  | [], _, _, h, e => by cases h; cases e; exact .nil
  | d :: ds, _, _, h, e => by
    obtain ⟨v, r, rfl, h2, h3⟩ := h
    have e' : (toPyG g d).bind (fun a => (toPysG g ds).map fun b => a :: b) = _ := e
    cases z : toPyG g d with
    | none => rw [z] at e'; cases e'
    | some a =>
      rw [z] at e'
      cases z2 : toPysG g ds with
      | none => simp [z2] at e'
      | some b =>
        simp [z2] at e'
        subst e'
        exact .cons (dp_G hg h2 z) (dps_G hg h3 z2)
end
theorem dp_R (r : Rel K m S H) : ∀ (n k : Nat) (p : PyData) (a : Addr), toPyR n S k = some p → m[k]? = some a → Dp K H (.ref a) p
  | 0, _, _, _, e, _ => by cases e
  | n + 1, k, p, a, e, hm => by
    have e' : (cellL S[k]?).bind (fun l => (toPysG (toPyR n S) l).map PyData.list) = some p := e
    cases z : cellL S[k]? with
    | none => rw [z] at e'; cases e'
    | some l =>
      rw [z] at e'
      cases z2 : toPysG (toPyR n S) l with
      | none => simp [z2] at e'
      | some ps =>
        simp [z2] at e'
        subst e'
        obtain ⟨vs, h1, h2⟩ := r.cellL hm z
        exact .lst h1 (dps_G (dp_R r n) h2 z2)
theorem dp_of (r : Rel K m S H) {d : D} {v : V} {p : PyData} (h : RD K m H d v) (e : toPy S d = some p) : Dp K H v p := dp_G (dp_R r 8) h e
theorem dps_of (r : Rel K m S H) {d : List D} {v : List V} {p : List PyData} (h : RDs K m H d v) (e : toPys S d = some p) : DpAll K H v p := dps_G (dp_R r 8) h e
theorem RD.non_iff {d : D} {v : V} (h : RD K m H d v) : decide (v = .non) = D.beq d .non := by
  cases d with
  | tup ds => obtain ⟨a, vs, rfl, _⟩ := h; rfl
  | ref n => obtain ⟨a, _, rfl⟩ := h; rfl
  | non => cases h; rfl
  | bl b => cases h; rfl
  | int i => cases h; rfl
  | str x => cases h; rfl
theorem flat1 {d : D} {v : V} (h : RD K m H d v) (f : flatD1 d = true) : flatV v = true := by
  cases d with
  | tup ds => cases f
  | ref n => cases f
  | non => cases h; rfl
  | bl b => cases h; rfl
  | int i => cases h; rfl
  | str x => cases h; rfl
theorem flat1s : ∀ {ds : List D} {vs : List V}, RDs K m H ds vs → ds.all flatD1 = true → vs.all flatV = true
  | [], _, h, _ => by cases h; rfl
  | d :: ds, _, h, f => by
    obtain ⟨v, r, rfl, h2, h3⟩ := h
    simp at f ⊢
    exact ⟨flat1 h2 f.1, by simpa using flat1s h3 (by simpa using f.2)⟩
theorem eqF_ok {d e : D} {v u : V} (h : RD K m H d v) (h' : RD K m H e u) (f : flatD1 d = true) (f' : flatD1 e = true) : eqV v u = eqF d e := by
  have str : ∀ a b : List Nat, ((⟨a.toArray⟩ : Str) == ⟨b.toArray⟩) = decide (a = b) := fun a b => by
    by_cases e : a = b
    · subst e; simp
    · rw [decide_eq_false e]
      have : (⟨a.toArray⟩ : Str) ≠ ⟨b.toArray⟩ := fun z => e (by
        have z2 := congrArg Str.cps z
        simpa using z2)
      simpa using this
  cases d <;> first | cases f | skip
  all_goals (cases e <;> first | cases f' | skip)
  all_goals (cases h; cases h')
  all_goals (first | rfl | exact str _ _)
theorem anyF_ok {e : D} {u : V} (h' : RD K m H e u) (f' : flatD1 e = true) : ∀ {ds : List D} {vs : List V}, RDs K m H ds vs → ds.all flatD1 = true → inV u vs = ds.any fun z => eqF z e
  | [], _, h, _ => by cases h; rfl
  | d :: ds, _, h, f => by
    obtain ⟨v, r, rfl, h2, h3⟩ := h
    simp at f
    have ih := anyF_ok h' f' h3 (by simpa using f.2)
    unfold inV at ih ⊢
    rw [List.any_cons, List.any_cons, ih, eqF_ok h2 h' f.1 f']
end
section
variable {X : Cx}
theorem op_ints {F : Value → Value → Sem Value} {C : Int → Int → Prop} {g : Int → Int → V} {f : D → D → Store → R D} {f' : Int → Int → D} (ho : OpR X F (rI C g))
    (hf : ∀ d e S P, goodR (f d e S) P → ∃ i j, d = .int i ∧ e = .int j ∧ C i j ∧ P (f' i j) S) (hg : ∀ i j m H, RD X.K m H (f' i j) (g i j)) : OpR X F (rO X.K f) := by
  intro pins s σ H x y v u Q I rx ry ⟨m, S, d, e, r, h1, h2, q⟩
  obtain ⟨i, j, rfl, rfl, c, p⟩ := hf d e S _ q
  cases h1
  cases h2
  exact ho pins s σ H _ _ v u Q I rx ry ⟨i, j, rfl, rfl, c, Post.now p r (hg i j m H)⟩
theorem rI_of {C : Int → Int → Prop} {g : Int → Int → V} {F : Value → Value → Sem Value} (h : OpR X F (rI0 g)) (hC : ∀ i j, C i j → True) : OpR X F (rI (fun _ _ => True) g) :=
  fun pins s σ H x y v u Q I rx ry ⟨i, j, e1, e2, _, q⟩ => h pins s σ H x y v u Q I rx ry ⟨i, j, e1, e2, q⟩
theorem o_sub : OpR X (binaryOp .Sub) (rO X.K bSub) := op_ints (f' := fun i j => .int (i - j)) (rI_of (C := fun _ _ => True) op_sub fun _ _ _ => trivial) (fun d e S P q => by
  cases d <;> first | exact q.elim | skip
  cases e <;> first | exact q.elim | skip
  exact ⟨_, _, rfl, rfl, trivial, q⟩) fun i j m H => rfl
theorem o_isub : OpR X (inplaceOp .Sub) (rO X.K bSub) := op_ints (f' := fun i j => .int (i - j)) (rI_of (C := fun _ _ => True) iop_sub fun _ _ _ => trivial) (fun d e S P q => by
  cases d <;> first | exact q.elim | skip
  cases e <;> first | exact q.elim | skip
  exact ⟨_, _, rfl, rfl, trivial, q⟩) fun i j m H => rfl
theorem o_mul : OpR X (binaryOp .Mult) (rO X.K bMul) := op_ints (f' := fun i j => .int (i * j)) op_mulX (fun d e S P q => by
  cases d <;> first | exact q.elim | skip
  cases e <;> first | exact q.elim | skip
  rename_i i j
  have q : goodR (if mulOk i j = true then R.ok (.int (i * j)) S else .err) P := q
  split at q
  · rename_i h
    have h := of_decide_eq_true h
    exact ⟨i, j, rfl, rfl, mulx_ok (a := i.natAbs.log2 + 1) (b := j.natAbs.log2 + 1) Nat.lt_log2_self Nat.lt_log2_self (by omega), q⟩
  · exact q.elim) fun i j m H => rfl
theorem o_div : OpR X (binaryOp .FloorDiv) (rO X.K bDiv) := op_ints (f' := fun i j => .int (i / j)) op_fdivW (fun d e S P q => by
  cases d <;> first | exact q.elim | skip
  cases e <;> first | exact q.elim | skip
  rename_i i j
  have q : goodR (if 0 < j ∧ j.natAbs.log2 < 9000 then R.ok (.int (i / j)) S else .err) P := q
  split at q
  · rename_i h
    exact ⟨i, j, rfl, rfl, h, q⟩
  · exact q.elim) fun i j m H => rfl
theorem o_mod : OpR X (binaryOp .Mod) (rO X.K bMod) := op_ints (f' := fun i j => .int (i % j)) op_mod (fun d e S P q => by
  cases d <;> first | exact q.elim | skip
  cases e <;> first | exact q.elim | skip
  rename_i i j
  have q : goodR (if 0 < j then R.ok (.int (i % j)) S else .err) P := q
  split at q
  · rename_i h
    exact ⟨i, j, rfl, rfl, h, q⟩
  · exact q.elim) fun i j m H => rfl
theorem o_pow : OpR X (binaryOp .Pow) (rO X.K bPow) := op_ints (f' := fun i j => .int (i ^ j.toNat)) op_pow (fun d e S P q => by
  cases d <;> first | exact q.elim | skip
  cases e <;> first | exact q.elim | skip
  rename_i i j
  have q : goodR (if 0 ≤ j ∧ j ≤ 1000000 ∧ i.natAbs < 18446744073709551616 then R.ok (.int (i ^ j.toNat)) S else .err) P := q
  split at q
  · rename_i h
    exact ⟨i, j, rfl, rfl, ⟨h.1, h.2.1, by omega⟩, q⟩
  · exact q.elim) fun i j m H => rfl
theorem o_cInt {op : CmpOp} {p : Int → Int → Bool} (h : OpR X (compareOp op) (rI0 fun i j => .bl (p i j))) : OpR X (compareOp op) (rO X.K (cInt p)) := op_ints (f' := fun i j => .bl (p i j)) (rI_of (C := fun _ _ => True) h fun _ _ _ => trivial) (fun d e S P q => by
  cases d <;> first | exact q.elim | skip
  cases e <;> first | exact q.elim | skip
  exact ⟨_, _, rfl, rfl, trivial, q⟩) fun i j m H => rfl
theorem o_lt : OpR X (compareOp .Lt) (rO X.K bLt) := o_cInt op_lt
theorem o_le : OpR X (compareOp .LtE) (rO X.K bLe) := o_cInt op_le
theorem o_gt : OpR X (compareOp .Gt) (rO X.K bGt) := o_cInt op_gt
theorem o_ge : OpR X (compareOp .GtE) (rO X.K bGe) := o_cInt op_ge
theorem o_neg : UnR X (unaryOp .USub) (rU1 X.K uNeg) := by
  intro pins s σ H x v Q I rx ⟨m, S, d, r, h, q⟩
  cases d <;> first | exact q.elim | skip
  cases h
  exact un_neg pins s σ H _ v Q I rx ⟨_, rfl, Post.now q r rfl⟩
theorem o_eq (hu : X.A.units + 64 < cLine) : OpR X (compareOp .Eq) (rO X.K bEq) := by
  intro pins s σ H x y v u Q I rx ry ⟨m, S, d, e, r, h1, h2, q⟩
  unfold bEq at q
  split at q
  · rename_i a b ea eb
    split at q
    · rename_i hs
      exact op_eqD hu pins s σ H x y v u Q I rx ry ⟨a, b, dp_of r h1 ea, dp_of r h2 eb, hs.1, hs.2, Post.now q r rfl⟩
    · exact q.elim
  · exact q.elim
theorem o_ne (hu : X.A.units + 64 < cLine) : OpR X (compareOp .NotEq) (rO X.K bNe) := by
  intro pins s σ H x y v u Q I rx ry ⟨m, S, d, e, r, h1, h2, q⟩
  unfold bNe at q
  split at q
  · rename_i a b ea eb
    split at q
    · rename_i hs
      exact op_neD hu pins s σ H x y v u Q I rx ry ⟨a, b, dp_of r h1 ea, dp_of r h2 eb, hs.1, hs.2, Post.now q r rfl⟩
    · exact q.elim
  · exact q.elim
theorem o_is : OpR X (compareOp .Is) (rO X.K bIs) := by
  intro pins s σ H x y v u Q I rx ry ⟨m, S, d, e, r, h1, h2, q⟩
  cases e <;> first | exact q.elim | skip
  · cases h2
    exact op_isN pins s σ H x _ v u Q I rx ry ⟨rfl, by rw [h1.non_iff]; exact Post.now q r rfl⟩
  · cases h2
    cases d <;> first | exact q.elim | skip
    cases h1
    exact op_isBl pins s σ H _ _ v u Q I rx ry ⟨_, _, rfl, rfl, Post.now q r rfl⟩
theorem o_isnot : OpR X (compareOp .IsNot) (rO X.K bIsNot) := by
  intro pins s σ H x y v u Q I rx ry ⟨m, S, d, e, r, h1, h2, q⟩
  cases e <;> first | exact q.elim | skip
  · cases h2
    exact op_notN pins s σ H x _ v u Q I rx ry ⟨rfl, by rw [h1.non_iff]; exact Post.now q r rfl⟩
  · cases h2
    cases d <;> first | exact q.elim | skip
    cases h1
    exact op_notBl pins s σ H _ _ v u Q I rx ry ⟨_, _, rfl, rfl, Post.now q r rfl⟩
theorem inB_ok {m : List Addr} {S : Store} {H : Hp} {d e : D} {x y : V} {k : Bool} (r : Rel X.K m S H) (h1 : RD X.K m H d x) (h2 : RD X.K m H e y) (q : inB d e S = some k) :
    (∃ p xs, y = .ref p ∧ SqT X.K H p xs ∧ flatV x = true ∧ xs.all flatV = true ∧ inV x xs = k) ∨ (∃ p ps, Dp X.K H x p ∧ Dp X.K H y (.list ps) ∧ SeqAt.shaped p = true ∧ SeqAt.shaped (.list ps) = true ∧ (ps.any fun z => PyData.eqv z p) = k) := by
  cases e with
  | tup l =>
    obtain ⟨a, vs, rfl, ht, hr⟩ := h2
    have q : (if flatD1 d = true ∧ l.all flatD1 = true then some (l.any fun z => eqF z d) else none) = some k := q
    split at q
    · rename_i hf
      cases q
      exact .inl ⟨a, vs, rfl, ht.sq, flat1 h1 hf.1, flat1s hr hf.2, anyF_ok h1 hf.1 hr hf.2⟩
    · cases q
  | ref n =>
    obtain ⟨a, hm, rfl⟩ := h2
    have q : (match (cellL S[n]?).bind (toPys S), toPy S d with
      | some ds, some d => if SeqAt.shaped d = true ∧ SeqAt.shaped (.list ds) = true then some (ds.any fun z => PyData.eqv z d) else none
      | _, _ => none) = some k := q
    split at q
    · rename_i ds p e1 e2
      split at q
      · rename_i hs
        cases q
        cases z : cellL S[n]? with
        | none => rw [z] at e1; cases e1
        | some l =>
          rw [z] at e1
          obtain ⟨vs, g1, g2⟩ := r.cellL hm z
          exact .inr ⟨p, ds, dp_of r h1 e2, .lst g1 (dps_of r g2 e1), hs.1, hs.2, rfl⟩
      · cases q
    · cases q
  | non => cases q
  | bl _ => cases q
  | int _ => cases q
  | str _ => cases q
theorem o_in (hu : X.A.units + 65 < cLine) : OpR X (compareOp .In) (rO X.K bIn) := by
  intro pins s σ H x y v u Q I rx ry ⟨m, S, d, e, r, h1, h2, q⟩
  unfold bIn at q
  split at q
  · rename_i k hk
    have q' := Post.now q r (v := .bl k) rfl
    rcases inB_ok r h1 h2 hk with ⟨p, xs, rfl, g1, g2, g3, rfl⟩ | ⟨p, ps, g1, g2, g3, g4, rfl⟩
    · exact op_in_seq pins s σ H x _ v u Q I rx ry ⟨p, xs, rfl, .inr g1, g2, g3, by simpa using q'⟩
    · exact op_inD hu pins s σ H x _ v u Q I rx ry ⟨p, ps, g1, g2, g3, g4, q'⟩
  · exact q.elim
theorem o_notin (hu : X.A.units + 65 < cLine) : OpR X (compareOp .NotIn) (rO X.K bNotIn) := by
  intro pins s σ H x y v u Q I rx ry ⟨m, S, d, e, r, h1, h2, q⟩
  unfold bNotIn at q
  split at q
  · rename_i k hk
    have q' := Post.now q r (v := .bl (!k)) rfl
    rcases inB_ok r h1 h2 hk with ⟨p, xs, rfl, g1, g2, g3, rfl⟩ | ⟨p, ps, g1, g2, g3, g4, rfl⟩
    · exact op_notIn_seq pins s σ H x _ v u Q I rx ry ⟨p, xs, rfl, .inr g1, g2, g3, by simpa using q'⟩
    · exact op_notInD hu pins s σ H x _ v u Q I rx ry ⟨p, ps, g1, g2, g3, g4, q'⟩
  · exact q.elim
end
end T

set_option Elab.async false
set_option linter.all false
set_option maxRecDepth 100000
set_option maxHeartbeats 1000000
/-! +, *, subscripts, slices, stores. -/
namespace T
open PySem PySem.Spec PyProof.Rows L2
section
variable {X : Cx}
theorem str_app (a b : List Nat) : (⟨a.toArray⟩ : Str) ++ (⟨b.toArray⟩ : Str) = ⟨(a ++ b).toArray⟩ := by
  show (⟨a.toArray ++ b.toArray⟩ : Str) = _
  congr 1
  simp
theorem op_catS : OpR X (binaryOp .Add) (fun x y H Q => ∃ a b xs ys, x = .ref a ∧ y = .ref b ∧ SqL X.K H a xs ∧ SqL X.K H b ys ∧ xs.length + ys.length ≤ sizeLine ∧ ∀ p, H p = none → Q (.ref p) (upd H p (.lst (xs ++ ys)))) := by
  intro pins s σ H x y v u Q I rx ry ⟨a, b, xs, ys, ex, ey, ha, hb, hz, q⟩
  subst ex ey
  cases rx
  cases ry
  obtain ⟨its, r1, p1, _⟩ := I.list ha
  obtain ⟨its2, r2, p2, _⟩ := I.list hb
  obtain ⟨⟨cls, dd, data, sl⟩, ho, hc, n, hd⟩ := p1.isList
  obtain ⟨⟨cls2, dd2, data2, sl2⟩, ho2, hc2, n2, hd2⟩ := p2.isList
  simp only at hc hd hc2 hd2
  subst hc hd hc2 hd2
  have hlen := r1.length
  have hlen2 := r2.length
  have e : its.toArray ++ its2.toArray = (its ++ its2).toArray := by simp
  refine concat_meets ⟨_, ho, rfl⟩ ⟨_, ho2, rfl⟩ noFill_list_add seq_list_add PySem.F.slot_list_add PySem.F.entry_list_add (PySem.F.args_list_add_2 _ _) (list_addW a b its.toArray its2.toArray n n2 dd dd2 sl sl2 (by simp only [List.size_toArray]; omega)) ⟨ho, ho2, ?_⟩
  rw [e]
  exact ⟨.ref _, _, I.laid (t' := s.toks) (o := .lst (xs ++ ys)) (fun b ob q => Heap.get?_push_of_some _ q) (Nat.le_refl _) ⟨by rw [List.length_append]; exact hz, _, 0, r1.append r2, Heap.get?_push_size _ rfl⟩, rfl, q _ (I.hok.fresh (Nat.le_refl _))⟩
/-- tuple + tuple, known to have no dict -/
theorem op_catF : OpR X (binaryOp .Add) (fun x y H Q => ∃ a b xs ys, x = .ref a ∧ y = .ref b ∧ SqT X.K H a xs ∧ SqT X.K H b ys ∧ xs.length + ys.length ≤ sizeLine ∧
    (xs = [] → Q (.ref b) H) ∧ (xs ≠ [] → ys = [] → Q (.ref a) H) ∧ (xs ≠ [] → ys ≠ [] → ∀ p o, o.dict = none → H p = none → Q (.ref p) (upd H p (.frz o (.tup (xs ++ ys)))))) := by
  intro pins s σ H x y v u Q I rx ry ⟨a, b, xs, ys, ex, ey, ha, hb, hz, q0, q1, q2⟩
  subst ex ey
  by_cases hx : xs = []
  · exact op_catA pins s σ H _ _ v u Q I rx ry ⟨a, b, xs, ys, rfl, rfl, ha, hb, hz, q0, q1, fun h => absurd hx h⟩
  by_cases hy : ys = []
  · exact op_catA pins s σ H _ _ v u Q I rx ry ⟨a, b, xs, ys, rfl, rfl, ha, hb, hz, q0, q1, fun _ h => absurd hy h⟩
  cases rx
  cases ry
  obtain ⟨its, r1, p1, _⟩ := I.tuple ha
  obtain ⟨its2, r2, p2, _⟩ := I.tuple hb
  refine HT.cat_tup p1 p2 (fun z => hx (r1.nil_iff.mp z)) (fun z => absurd (r2.nil_iff.mp z) hy) (fun z => ?_) (by rw [← r1.length, ← r2.length]; exact hz)
  refine ⟨.ref s.heap.objs.size, _, I.laid (t' := s.toks) (o := .frz { cls := .type "tuple", data := .seq (its ++ its2).toArray } (.tup (xs ++ ys))) (fun b ob q => Heap.get?_push_of_some _ q) (Nat.le_refl _) ?_, rfl, q2 hx hy _ _ rfl (I.hok.fresh (Nat.le_refl _))⟩
  exact ⟨Heap.get?_push_size _ rfl, by rw [List.length_append]; exact hz, _, r1.append r2, ⟨_, Heap.get?_push_size _ rfl, rfl, _, rfl⟩⟩
theorem strLen (a : List Nat) : (⟨a.toArray⟩ : Str).length = a.length := by show a.toArray.size = _; simp
theorem o_add : OpR X (binaryOp .Add) (rO X.K bAdd) := by
  intro pins s σ H x y v u Q I rx ry ⟨m, S, d, e, r, h1, h2, q⟩
  cases d <;> first | exact q.elim | skip
  all_goals (cases e <;> first | exact q.elim | skip)
  · cases h1; cases h2
    exact op_add pins s σ H _ _ v u Q I rx ry ⟨_, _, rfl, rfl, Post.now q r rfl⟩
  · rename_i a b
    cases h1; cases h2
    have q : goodR (if a.length + b.length ≤ lineN then R.ok (.str (a ++ b)) S else .err) (Post X.K m H Q) := q
    split at q
    · rename_i hz
      refine op_add_str pins s σ H _ _ v u Q I rx ry ⟨_, _, rfl, rfl, by rw [strLen, strLen, ← line_eq]; exact hz, ?_⟩
      rw [str_app]
      exact Post.now q r rfl
    · exact q.elim
  · rename_i a b
    obtain ⟨pa, va, rfl, ta, ra⟩ := h1
    obtain ⟨pb, vb, rfl, tb, rb⟩ := h2
    have q : goodR (if a.length + b.length ≤ lineN then R.ok (.tup (a ++ b)) S else .err) (Post X.K m H Q) := q
    split at q
    · rename_i hz
      refine op_catF pins s σ H _ _ v u Q I rx ry ⟨pa, pb, va, vb, rfl, rfl, ta.sq, tb.sq, by rw [ra.length, rb.length, ← line_eq]; exact hz, fun e0 => ?_, fun _ e0 => ?_, fun _ _ p o hd hp => ?_⟩
      · refine Post.now q r ?_
        subst e0
        have : a = [] := by have := ra.length; cases a <;> simp at this ⊢
        subst this
        exact ⟨pb, vb, rfl, tb, rb⟩
      · refine Post.now q r ?_
        subst e0
        have : b = [] := by have := rb.length; cases b <;> simp at this ⊢
        subst this
        rw [List.append_nil]
        exact ⟨pa, va, rfl, ta, ra⟩
      · exact q m _ _ (step_new hp) (r.new hp) (RD.newTup hd hp (ra.append rb))
    · exact q.elim
  · rename_i a b
    obtain ⟨pa, ma, rfl⟩ := h1
    obtain ⟨pb, mb, rfl⟩ := h2
    have q : goodR (match cellL S[a]?, cellL S[b]? with
      | some a, some b => if a.length + b.length ≤ lineN then R.ok (.ref S.length) (S ++ [.lst (a ++ b)]) else .err
      | _, _ => .err) (Post X.K m H Q) := q
    split at q
    · rename_i la lb ea eb
      obtain ⟨va, qa, ra⟩ := r.cellL ma ea
      obtain ⟨vb, qb, rb⟩ := r.cellL mb eb
      split at q
      · rename_i hz
        refine op_catS pins s σ H _ _ v u Q I rx ry ⟨pa, pb, va, vb, rfl, rfl, qa, qb, by rw [ra.length, rb.length, ← line_eq]; exact hz, fun p hp => ?_⟩
        exact q _ _ _ (step_alloc hp) (r.alloc hp (ra.append rb)) (RD.newRef r)
      · exact q.elim
    · exact q.elim
/-- += : numbers and texts; a list is not extended so -/
def bIAdd (x y : D) (S : Store) : R D := match x, y with
  | .int i, .int j => .ok (.int (i + j)) S
  | .str a, .str b => if a.length + b.length ≤ lineN then .ok (.str (a ++ b)) S else .err
  | .ref m, .ref n => match S[m]?, S[n]? with
    | some (.lst a), some (.lst b) => if a.length + b.length ≤ lineN then .ok (.ref m) (S.set m (.lst (a ++ b))) else .err
    | _, _ => .err
  | _, _ => .err
theorem o_iadd : OpR X (inplaceOp .Add) (rO X.K bIAdd) := by
  intro pins s σ H x y v u Q I rx ry ⟨m, S, d, e, r, h1, h2, q⟩
  cases d <;> first | exact q.elim | skip
  all_goals (cases e <;> first | exact q.elim | skip)
  · cases h1; cases h2
    exact iop_add pins s σ H _ _ v u Q I rx ry ⟨_, _, rfl, rfl, Post.now q r rfl⟩
  · rename_i a b
    cases h1; cases h2
    have q : goodR (if a.length + b.length ≤ lineN then R.ok (.str (a ++ b)) S else .err) (Post X.K m H Q) := q
    split at q
    · rename_i hz
      refine iop_add_str pins s σ H _ _ v u Q I rx ry ⟨_, _, rfl, rfl, by rw [strLen, strLen, ← line_eq]; exact hz, ?_⟩
      rw [str_app]
      exact Post.now q r rfl
    · exact q.elim
  · rename_i a b
    obtain ⟨pa, ma, rfl⟩ := h1
    obtain ⟨pb, mb, rfl⟩ := h2
    have q : goodR (match S[a]?, S[b]? with
      | some (.lst la), some (.lst lb) => if la.length + lb.length ≤ lineN then R.ok (.ref a) (S.set a (.lst (la ++ lb))) else .err
      | _, _ => .err) (Post X.K m H Q) := q
    split at q
    · rename_i la lb ea eb
      obtain ⟨va, qa, ra⟩ := r.lst ma ea
      obtain ⟨vb, qb, rb⟩ := r.lst mb eb
      split at q
      · rename_i hz
        refine iop_ext pins s σ H _ _ v u Q I rx ry ⟨pa, pb, va, vb, rfl, rfl, qa, qb, by rw [ra.length, rb.length, ← line_eq]; exact hz, ?_⟩
        exact q _ _ _ (r.step_write ma ea) (r.write ma ea (ra.append rb)) ⟨pa, ma, rfl⟩
      · exact q.elim
    · exact q.elim
/-! * : numbers; a list, a text, a tuple times a number -/
def bMulX (x y : D) (S : Store) : R D := match x, y with
  | .int i, .int j => if mulOk i j = true then .ok (.int (i * j)) S else .err
  | .ref m, .int k => match S[m]? with
    | some (.lst a) => if -9223372036854775808 ≤ k ∧ k < 9223372036854775808 ∧ a.length * k.toNat ≤ lineN then .ok (.ref S.length) (S ++ [.lst (List.replicate k.toNat a).flatten]) else .err
    | _ => .err
  | _, _ => .err
theorem RDs.rep {K : PySem.W.Frag} {m : List Addr} {H : Hp} {ds : List D} {vs : List V} (h : RDs K m H ds vs) : ∀ k : Nat, RDs K m H (List.replicate k ds).flatten (List.replicate k vs).flatten
  | 0 => rfl
  | k + 1 => by
    rw [List.replicate_succ, List.replicate_succ, List.flatten_cons, List.flatten_cons]
    exact h.append (RDs.rep h k)
theorem o_mulx : OpR X (binaryOp .Mult) (rO X.K bMulX) := by
  intro pins s σ H x y v u Q I rx ry ⟨m, S, d, e, r, h1, h2, q⟩
  cases d <;> first | exact q.elim | skip
  all_goals (cases e <;> first | exact q.elim | skip)
  · exact o_mul pins s σ H _ _ v u Q I rx ry ⟨m, S, _, _, r, h1, h2, q⟩
  · rename_i a k
    obtain ⟨pa, ma, rfl⟩ := h1
    cases h2
    have q : goodR (match S[a]? with
      | some (.lst a) => if -9223372036854775808 ≤ k ∧ k < 9223372036854775808 ∧ a.length * k.toNat ≤ lineN then R.ok (.ref S.length) (S ++ [.lst (List.replicate k.toNat a).flatten]) else .err
      | _ => .err) (Post X.K m H Q) := q
    split at q
    · rename_i la ea
      obtain ⟨va, qa, ra⟩ := r.lst ma ea
      split at q
      · rename_i hz
        refine op_rep pins s σ H _ _ v u Q I rx ry ⟨pa, k, va, rfl, rfl, qa, by omega, by omega, by rw [ra.length, ← line_eq]; exact hz.2.2, fun p hp => ?_⟩
        exact q _ _ _ (step_alloc hp) (r.alloc hp (ra.rep _)) (RD.newRef r)
      · exact q.elim
    · exact q.elim
/-! ### subscripts -/
def ixA {α : Type} (l : List α) (i : Int) : Option α := atI l i
def bIx (x y : D) (S : Store) : R D := match y with
  | .int i => match x with
    | .tup l => match atI l i with
      | some d => .ok d S
      | none => .err
    | .str z => if z.length ≤ lineN then (match atI z i with
      | some c => .ok (.str [c]) S
      | none => .err) else .err
    | .ref n => match (cellL S[n]?).bind (atI · i) with
      | some d => .ok d S
      | none => .err
    | _ => .err
  | _ => .err
theorem atI_RD {K : PySem.W.Frag} {m : List Addr} {H : Hp} {ds : List D} {vs : List V} {i : Int} {d : D} (h : RDs K m H ds vs) (e : atI ds i = some d) : ∃ v, atI vs i = some v ∧ RD K m H d v := by
  unfold atI at e ⊢
  rw [h.length]
  cases z : ixN ds.length i with
  | none => rw [z] at e; cases e
  | some j =>
    rw [z] at e
    exact h.get e
theorem ix_all : IxR X (rO X.K bIx) := by
  intro value slice pins s σ H x y v u Q I rx ry ⟨m, S, d, e, r, h1, h2, q⟩ hs
  cases e <;> first | exact q.elim | skip
  rename_i i
  cases h2
  cases d <;> first | exact q.elim | skip
  · rename_i z
    cases h1
    have q : goodR (if z.length ≤ lineN then (match atI z i with
      | some c => R.ok (.str [c]) S
      | none => .err) else .err) (Post X.K m H Q) := q
    split at q
    · rename_i hz
      split at q
      · rename_i c hc
        exact ix_str value slice pins s σ H _ _ v u Q I rx ry ⟨_, i, c, rfl, rfl, by rw [strLen, ← line_eq]; exact hz, by simpa using hc, Post.now q r rfl⟩ hs
      · exact q.elim
    · exact q.elim
  · rename_i l
    obtain ⟨a, vs, rfl, ht, hr⟩ := h1
    have q : goodR (match atI l i with
      | some d => R.ok d S
      | none => .err) (Post X.K m H Q) := q
    split at q
    · rename_i c hc
      obtain ⟨w, g1, g2⟩ := atI_RD hr hc
      exact ix_tup value slice pins s σ H _ _ v u Q I rx ry ⟨a, vs, i, w, rfl, rfl, ht.sq, g1, Post.now q r g2⟩ hs
    · exact q.elim
  · rename_i n
    obtain ⟨a, hm, rfl⟩ := h1
    have q : goodR (match (cellL S[n]?).bind (atI · i) with
      | some d => R.ok d S
      | none => .err) (Post X.K m H Q) := q
    split at q
    · rename_i c hc
      cases z : cellL S[n]? with
      | none => rw [z] at hc; cases hc
      | some l =>
        rw [z] at hc
        obtain ⟨vs, hq, hr⟩ := r.cellL hm z
        obtain ⟨w, g1, g2⟩ := atI_RD hr hc
        exact ix_list value slice pins s σ H _ _ v u Q I rx ry ⟨a, vs, i, w, rfl, rfl, hq, g1, Post.now q r g2⟩ hs
    · exact q.elim
theorem s_ix {a b : Expr} {pos : Pos} {fa fb : Ev} (ha : PE X a (tE X.K fa)) (hb : PE X b (tE X.K fb)) (hs : PlainIx b) : PE X (.Subscript a b pos) (tE X.K (e2 bIx fa fb)) := by
  refine L2.PE.weak (pe_ix ix_all ha hb hs) fun σ H Q ⟨m, S, ρ, r, rs, q⟩ => ?_
  refine tE_on r rs (goodR_bind.mp q) fun d S1 m1 H1 v q1 st1 r1 rs1 d1 => ?_
  refine tE_on r1 rs1 (goodR_bind.mp q1) fun d' S2 m2 H2 v' q2 st2 r2 rs2 d2 => ?_
  exact ⟨m2, S2, d, d', r2, d1.step st2, d2, q2.mono fun y S3 p => Post.step (st1.trans st2) p⟩
/-! ### slices -/
def cutD {α : Type} (xs : List α) (lo hi : Option Int) : List α := (xs.drop (HT.sIx xs.length 0 lo)).take (HT.sIx xs.length xs.length hi - HT.sIx xs.length 0 lo)
def bCut (x : D) (lo hi : Option Int) (S : Store) : R D := match x with
  | .tup l => .ok (.tup (cutD l lo hi)) S
  | .str z => if z.length ≤ lineN then .ok (.str (cutD z lo hi)) S else .err
  | .ref n => match cellL S[n]? with
    | some l => .ok (.ref S.length) (S ++ [.lst (cutD l lo hi)])
    | none => .err
  | _ => .err
abbrev OEv := Env → Store → R (Option Int)
def oNone : OEv := fun _ S => .ok none S
def oSome (e : Ev) : OEv := fun ρ S => (e ρ S).bind fun d S1 => match d with
  | .int i => .ok (some i) S1
  | _ => .err
def eCut (e : Ev) (lo hi : OEv) : Ev := fun ρ S => (e ρ S).bind fun d S1 => (lo ρ S1).bind fun l S2 => (hi ρ S2).bind fun h S3 => bCut d l h S3
def tO (K : PySem.W.Frag) (f : OEv) : TO := fun σ H Q => ∃ m S ρ, Rel K m S H ∧ RS K m H ρ σ ∧ goodR (f ρ S) fun o S' => ∀ m' H', Step m H m' H' → Rel K m' S' H' → Q o H'
theorem _root_.L2.PO.weak {o : Option Expr} {t t' : TO} (h : PO X o t) (k : ∀ σ H Q, t' σ H Q → t σ H Q) : PO X o t' := ⟨fun pins s σ H Q I q => h.run pins s σ H Q I (k _ _ _ q)⟩
theorem s_oNone : PO X none (tO X.K oNone) := po_none.weak fun σ H Q ⟨m, S, ρ, r, rs, q⟩ => q m H (Step.refl m H) r
theorem s_oSome {e : Expr} {f : Ev} (h : PE X e (tE X.K f)) : PO X (some e) (tO X.K (oSome f)) := (po_some h).weak fun σ H Q ⟨m, S, ρ, r, rs, q⟩ => by
  refine tE_on r rs (goodR_bind.mp q) fun d S1 m1 H1 v q1 st1 r1 rs1 d1 => ?_
  split at q1
  · cases d1
    exact ⟨_, rfl, q1 m1 H1 st1 r1⟩
  · exact q1.elim
/-- t[lo:hi] of a tuple, known to have no dict -/
theorem sl_tupF : SlR X (fun x lo hi H Q => ∃ a xs, x = .ref a ∧ SqT X.K H a xs ∧
  (HT.sIx xs.length 0 lo = 0 ∧ HT.sIx xs.length xs.length hi = xs.length → Q (.ref a) H) ∧ (¬ (HT.sIx xs.length 0 lo = 0 ∧ HT.sIx xs.length xs.length hi = xs.length) → ∀ p o, o.dict = none → H p = none → Q (.ref p) (upd H p (.frz o (.tup (cutV xs lo hi)))))) := by
  intro pins s σ H x v vl vu lo hi sl Q I rx hs pl pu ⟨a, xs, ex, hx, q1, q2⟩
  subst ex
  by_cases hw : HT.sIx xs.length 0 lo = 0 ∧ HT.sIx xs.length xs.length hi = xs.length
  · exact sl_tupA pins s σ H _ v vl vu lo hi sl Q I rx hs pl pu ⟨a, xs, rfl, hx, q1, fun h => absurd hw h⟩
  · cases rx
    obtain ⟨its, r, ht, hz⟩ := I.tuple hx
    have hlen : its.toArray.size = xs.length := by rw [List.size_toArray]; exact r.length.symm
    refine ⟨"tuple", _, PyProof.Rows.slot_tuple_getitem.lookup, ht.typeIs, ?_⟩
    refine HT.getItem_tuple_cut ht hs pl pu (by rw [hlen]; exact hw) ?_ (by rw [hlen]; exact hz)
    rw [hlen]
    refine ⟨.ref s.heap.objs.size, _, I.laid (t' := s.toks) (o := .frz { cls := .type "tuple", data := .seq ((its.drop (HT.sIx xs.length 0 lo)).take (HT.sIx xs.length xs.length hi - HT.sIx xs.length 0 lo)).toArray } (.tup (cutV xs lo hi))) (fun b ob q => Heap.get?_push_of_some _ q) (Nat.le_refl _) ?_, rfl, q2 hw _ _ rfl (I.hok.fresh (Nat.le_refl _))⟩
    exact ⟨Heap.get?_push_size _ rfl, Nat.le_trans (cutV_length xs lo hi) hz, _, (r.drop (HT.sIx xs.length 0 lo)).take (HT.sIx xs.length xs.length hi - HT.sIx xs.length 0 lo), IsTup.new _ _⟩
theorem RDs.cut {K : PySem.W.Frag} {m : List Addr} {H : Hp} {ds : List D} {vs : List V} (h : RDs K m H ds vs) (lo hi : Option Int) : RDs K m H (cutD ds lo hi) (cutV vs lo hi) := by
  unfold cutD cutV
  rw [h.length]
  exact (h.drop _).take _
theorem cutD_whole {α : Type} {l : List α} {lo hi : Option Int} (h : HT.sIx l.length 0 lo = 0 ∧ HT.sIx l.length l.length hi = l.length) : cutD l lo hi = l := by
  unfold cutD
  rw [h.1, h.2]
  simp
theorem sl_all : SlR X (fun x lo hi H Q => ∃ m S d, Rel X.K m S H ∧ RD X.K m H d x ∧ goodR (bCut d lo hi S) (Post X.K m H Q)) := by
  intro pins s σ H x v vl vu lo hi sl Q I rx hs pl pu ⟨m, S, d, r, h1, q⟩
  cases d with
  | str z =>
    cases h1
    have q : goodR (if z.length ≤ lineN then R.ok (.str (cutD z lo hi)) S else .err) (Post X.K m H Q) := q
    split at q
    · rename_i hz
      refine sl_str pins s σ H _ v vl vu lo hi sl Q I rx hs pl pu ⟨_, rfl, by rw [strLen, ← line_eq]; exact hz, Post.now q r ?_⟩
      show (V.str (cutS _ lo hi)) = _
      unfold cutS cutD
      rw [strLen]
    · exact q.elim
  | tup l =>
    obtain ⟨a, vs, rfl, ht, hr⟩ := h1
    have hl := hr.length
    refine sl_tupF pins s σ H _ v vl vu lo hi sl Q I rx hs pl pu ⟨a, vs, rfl, ht.sq, fun hw => ?_, fun hw p o hd hp => ?_⟩
    · rw [hl] at hw
      refine Post.now q r ?_
      rw [cutD_whole hw]
      exact ⟨a, vs, rfl, ht, hr⟩
    · exact q m _ _ (step_new hp) (r.new hp) (RD.newTup hd hp (hr.cut lo hi))
  | ref n =>
    obtain ⟨a, hm, rfl⟩ := h1
    have q : goodR (match cellL S[n]? with
      | some l => R.ok (.ref S.length) (S ++ [.lst (cutD l lo hi)])
      | none => .err) (Post X.K m H Q) := q
    split at q
    · rename_i l z
      obtain ⟨vs, hq, hr⟩ := r.cellL hm z
      exact sl_list pins s σ H _ v vl vu lo hi sl Q I rx hs pl pu ⟨a, vs, rfl, hq, fun p hp => q _ _ _ (step_alloc hp) (r.alloc hp (hr.cut lo hi)) (RD.newRef r)⟩
    · exact q.elim
  | non => exact q.elim
  | bl _ => exact q.elim
  | int _ => exact q.elim
theorem s_cut {e : Expr} {lo hi : Option Expr} {p2 pos : Pos} {f : Ev} {fl fh : OEv} (he : PE X e (tE X.K f)) (hl : PO X lo (tO X.K fl)) (hh : PO X hi (tO X.K fh)) : PE X (.Subscript e (.Slice lo hi none p2) pos) (tE X.K (eCut f fl fh)) := by
  refine L2.PE.weak (pe_slice sl_all he hl hh) fun σ H Q ⟨m, S, ρ, r, rs, q⟩ => ?_
  refine tE_on r rs (goodR_bind.mp q) fun d S1 m1 H1 v q1 st1 r1 rs1 d1 => ?_
  refine ⟨m1, S1, ρ, r1, rs1, (goodR_bind.mp q1).mono fun l S2 q2 m2 H2 st2 r2 => ?_⟩
  refine ⟨m2, S2, ρ, r2, rs1.step st2, (goodR_bind.mp q2).mono fun h S3 q3 m3 H3 st3 r3 => ?_⟩
  exact ⟨m3, S3, d, r3, (d1.step st2).step st3, q3.mono fun y S4 p => Post.step ((st1.trans st2).trans st3) p⟩
end
end T

set_option Elab.async false
set_option linter.all false
set_option maxRecDepth 100000
set_option maxHeartbeats 1000000
/-! zip of two with strict=True, over iterators of any kind. -/
namespace T
open PySem
open PySem.Sem (wp)
abbrev IsZipS (h : Heap) (z TI TO : Addr) (f0 : Value) : Prop :=
  h.get? z = some { cls := .type "zip", dict := none, data := .fields #[f0, .bool false, .bool true, .ref TI, .ref TO], slots := #[] }
section
variable {prog : Program} {w : World} {A : Around} {E : Value → Shared → Prop} {s : Shared} {z TI TO i1 i2 it : Addr} {fp fp1 fp2 : List Addr} {n n1 n2 i : Nat} {P P1 P2 : Nat → Value → Prop} {St St1 St2 : Nat → Heap → Prop} {a1 a2 : Value}
theorem nOE_item {Q : Option Value → Shared → Prop} (D : Draws prog w A it fp n P St) (hlt : i < n) (st : St i s.heap)
    (hQ : ∀ x h' tk, P i x → St (i + 1) h' → Heap.SameBut it s.heap h' → Q (some x) { s with heap := h', toks := tk }) : wpAny (model prog w) A (Builtin.SmallTypes.nextOrEnd (.ref it)) Q E s := by
  unfold Builtin.SmallTypes.nextOrEnd
  exact wpAny_bind (wpAny_attempt (D.item i _ _ _ hlt st fun x h' tk a b c => wpAny_pure (hQ x h' tk a b c)))
theorem nOE_done {Q : Option Value → Shared → Prop} (D : Draws prog w A it fp n P St) (st : St n s.heap)
    (hQ : ∀ h', Heap.ExtBut it s.heap h' → Q none { s with heap := h' }) : wpAny (model prog w) A (Builtin.SmallTypes.nextOrEnd (.ref it)) Q E s := by
  unfold Builtin.SmallTypes.nextOrEnd
  refine wpAny_bind (wpAny_attempt (D.done _ _ _ st fun h' e hx he => ?_))
  obtain ⟨o, ho, hc⟩ := he
  refine wpAny_bind (wpAny_isInstance (T := "StopIteration") (b := true) ⟨o, ho, hc⟩ isSubtype_stop ?_)
  exact wpAny_pure (hQ _ hx)
theorem zipS2_item {Q : Value → Shared → Prop} (S : ZipSep2 z TI TO i1 i2 fp1 fp2) (D1 : Draws prog w A i1 fp1 n1 P1 St1) (D2 : Draws prog w A i2 fp2 n2 P2 St2)
    (hz : IsZipS s.heap z TI TO .none) (hTI : IsTupOf2 s.heap TI (.ref i1) (.ref i2)) (hTO : IsTupOf2 s.heap TO a1 a2) (st1 : St1 i s.heap) (st2 : St2 i s.heap) (hlt1 : i < n1) (hlt2 : i < n2)
    (hQ : ∀ x1 x2 h' tk, P1 i x1 → P2 i x2 → IsZipS h' z TI TO (rawInt s.heap.objs.size) → IsTupOf2 h' TO x1 x2 → St1 (i + 1) h' → St2 (i + 1) h' → IsTupOf2 h' s.heap.objs.size x1 x2 → h'.objs.size = s.heap.objs.size + 1 →
      (∀ c o, c ≠ z → c ≠ TO → c ≠ i1 → c ≠ i2 → s.heap.get? c = some o → h'.get? c = some o) → Q (.ref s.heap.objs.size) { s with heap := h', toks := tk }) :
    wpAny (model prog w) A (Builtin.«zip.__next__» ⟨[.ref z], []⟩) (fun fin s' => ∃ v, fin = .done (.ret v) ∧ Q v s') E s := by
  obtain ⟨hp, g, d, tk0, os⟩ := s
  show wpAny _ _ (field (.ref z) 2 >>= _) _ _ _
  refine wpAny_bind (wpAny_field hz rfl (x := .bool true) rfl ?_)
  show wpAny _ _ (field (.ref z) 3 >>= _) _ _ _
  refine wpAny_bind (wpAny_field hz rfl (x := .ref TI) rfl ?_)
  refine wpAny_bind (wpAny_seqItems hTI rfl ?_)
  show wpAny _ _ (Builtin.SmallTypes.ownedTupleIsFree (.ref z) >>= _) _ _ _
  refine wpAny_bind ?_
  unfold Builtin.SmallTypes.ownedTupleIsFree
  refine wpAny_bind (wpAny_field hz rfl (x := .none) rfl (wpAny_pure ?_))
  simp only [if_true]
  refine wpAny_bind (wpAny_rule ?_)
  refine wpAny_bind (wpAny_field hz rfl (x := .ref TO) rfl ?_)
  refine wpAny_bind (wpAny_setField_rec hz (by simp) fun g0 hz0 hs0 => ?_)
  replace hz0 : IsZipS g0 z TI TO .ellipsis := hz0
  replace hs0 : Heap.SameBut z hp g0 := hs0
  refine wpAny_bind ?_
  simp only [List.zipIdx_cons, List.zipIdx_nil, List.forIn_cons, List.forIn_nil]
  refine wpAny_bind (wpAny_bind (wpAny_onRaise ?_))
  show wpAny _ _ (Builtin.SmallTypes.nextOrEnd (.ref i1)) _ _ ⟨g0, g, d, tk0, os⟩
  refine nOE_item D1 hlt1 (D1.over st1 hs0 S.zf1) fun x1 p1 tk1 hx1 sn1 hp1 => ?_
  replace hp1 : Heap.SameBut i1 g0 p1 := hp1
  have hU1 : IsTupOf2 p1 TO a1 a2 := hp1.extBut _ _ S.Ti1 (hs0.extBut _ _ S.TOz hTO)
  refine wpAny_bind (wpAny_seqItems (s := ⟨p1, g, d, tk1, os⟩) hU1 rfl ?_)
  refine wpAny_bind (updateSeq_IsTupOf2 (s := ⟨p1, g, d, tk1, os⟩) hU1 fun g1 hT1 hs1 => ?_)
  replace hT1 : IsTupOf2 g1 TO x1 a2 := hT1
  replace hs1 : Heap.SameBut TO p1 g1 := hs1
  refine wpAny_bind (wpAny_letGo (wpAny_pure ?_))
  refine wpAny_bind (wpAny_bind (wpAny_onRaise ?_))
  show wpAny _ _ (Builtin.SmallTypes.nextOrEnd (.ref i2)) _ _ ⟨g1, g, d, tk1, os⟩
  refine nOE_item D2 hlt2 (D2.over (D2.over (D2.over st2 hs0 S.zf2) hp1 S.sep1_2) hs1 S.Tf2) fun x2 p2 tk2 hx2 sn2 hp2 => ?_
  replace hp2 : Heap.SameBut i2 g1 p2 := hp2
  have hU2 : IsTupOf2 p2 TO x1 a2 := hp2.extBut _ _ S.Ti2 hT1
  refine wpAny_bind (wpAny_seqItems (s := ⟨p2, g, d, tk2, os⟩) hU2 rfl ?_)
  refine wpAny_bind (updateSeq_IsTupOf2 (s := ⟨p2, g, d, tk2, os⟩) hU2 fun g2 hT2 hs2 => ?_)
  replace hT2 : IsTupOf2 g2 TO x1 x2 := hT2
  replace hs2 : Heap.SameBut TO p2 g2 := hs2
  refine wpAny_bind (wpAny_letGo (wpAny_pure (wpAny_pure ?_)))
  refine wpAny_bind (wpAny_seqItems (s := ⟨g2, g, d, tk2, os⟩) hT2 rfl ?_)
  refine wpAny_bind (wpAny_newTuple ?_)
  have hsz : g2.objs.size = hp.objs.size := by rw [hs2.1, hp2.1, hs1.1, hp1.1, hs0.1]
  have hzz : IsZipS g2 z TI TO .ellipsis := (hs2.extBut _ _ S.TOz.symm (hp2.extBut _ _ S.zi2 (hs1.extBut _ _ S.TOz.symm (hp1.extBut _ _ S.zi1 hz0))))
  have hkk : ∀ c o, c ≠ z → c ≠ TO → c ≠ i1 → c ≠ i2 → hp.get? c = some o → g2.get? c = some o := fun c o cz cT c1 c2 e =>
    (hs2.extBut _ _ cT (hp2.extBut _ _ c2 (hs1.extBut _ _ cT (hp1.extBut _ _ c1 (hs0.extBut _ _ cz e)))))
  have hj1 : St1 (i + 1) g2 := (D1.over (D1.over (D1.over sn1 hs1 S.Tf1) hp2 S.sep2_1) hs2 S.Tf1)
  have hj2 : St2 (i + 1) g2 := (D2.over sn2 hs2 S.Tf2)
  have hzlt : z < g2.objs.size := Heap.lt_size hzz
  show wpAny _ _ (Builtin.SmallTypes.ownedTupleHandOut (.ref z) (.ref g2.objs.size) >>= _) _ _ ⟨g2.push { cls := .type "tuple", data := .seq #[x1, x2] }, g, d, tk2, os⟩
  refine wpAny_bind ?_
  unfold Builtin.SmallTypes.ownedTupleHandOut
  have hz₆ : IsZipS (g2.push { cls := .type "tuple", data := .seq #[x1, x2] }) z TI TO .ellipsis := Heap.get?_push_of_some _ hzz
  refine wpAny_bind (wpAny_setField_rec hz₆ (by simp) fun h₇ hz₇ hs₇ => ?_)
  replace hz₇ : IsZipS h₇ z TI TO (rawInt g2.objs.size) := hz₇
  refine wpAny_setField_rec hz₇ (by simp) fun h₈ hz₈ hs₈ => ?_
  replace hz₈ : IsZipS h₈ z TI TO (rawInt g2.objs.size) := hz₈
  replace hs₇ : Heap.SameBut z (g2.push { cls := .type "tuple", data := .seq #[x1, x2] }) h₇ := hs₇
  replace hs₈ : Heap.SameBut z h₇ h₈ := hs₈
  have up : ∀ c o, c ≠ z → g2.get? c = some o → h₈.get? c = some o := fun c o c1 e => hs₈.extBut _ _ c1 (hs₇.extBut _ _ c1 (Heap.get?_push_of_some _ e))
  have hT₈ : IsTupOf2 h₈ g2.objs.size x1 x2 := hs₈.extBut _ _ (Nat.ne_of_gt hzlt) (hs₇.extBut _ _ (Nat.ne_of_gt hzlt) (Heap.get?_push_size _ rfl))
  have hz8 : h₈.objs.size = g2.objs.size + 1 := by rw [hs₈.1, hs₇.1, Heap.size_push]
  rw [hsz] at hz₈ hT₈ hz8
  refine wpAny_pure ⟨_, rfl, ?_⟩
  show Q (.ref g2.objs.size) ⟨h₈, g, d, tk2, os⟩
  rw [hsz]
  exact hQ x1 x2 h₈ tk2 hx1 hx2 hz₈ (up _ _ S.TOz hT2) (D1.frame _ _ _ hj1 fun b hb o e => up b o (fun q => S.zf1 (q ▸ hb)) e) (D2.frame _ _ _ hj2 fun b hb o e => up b o (fun q => S.zf2 (q ▸ hb)) e) hT₈ hz8 fun c o cz cT c1 c2 e => up c o cz (hkk c o cz cT c1 c2 e)
theorem zipS2_end {Q : Fin → Shared → Prop} (hh : A.handled = none) (S : ZipSep2 z TI TO i1 i2 fp1 fp2) (D1 : Draws prog w A i1 fp1 n P1 St1) (D2 : Draws prog w A i2 fp2 n P2 St2)
    (hz : IsZipS s.heap z TI TO .none) (hTI : IsTupOf2 s.heap TI (.ref i1) (.ref i2)) (hTO : IsTupOf2 s.heap TO a1 a2) (st1 : St1 n s.heap) (st2 : St2 n s.heap) (sep : ∀ b ∈ fp2, b ≠ i1)
    (hE : ∀ h' tk e, (∀ c o, c ≠ z → c ≠ TO → c ≠ i1 → c ≠ i2 → s.heap.get? c = some o → h'.get? c = some o) → (∃ o, h'.get? e = some o ∧ o.cls = .type "StopIteration") → E (.ref e) { s with heap := h', toks := tk }) :
    wpAny (model prog w) A (Builtin.«zip.__next__» ⟨[.ref z], []⟩) Q E s := by
  obtain ⟨hp, g, d, tk0, os⟩ := s
  show wpAny _ _ (field (.ref z) 2 >>= _) _ _ _
  refine wpAny_bind (wpAny_field hz rfl (x := .bool true) rfl ?_)
  show wpAny _ _ (field (.ref z) 3 >>= _) _ _ _
  refine wpAny_bind (wpAny_field hz rfl (x := .ref TI) rfl ?_)
  refine wpAny_bind (wpAny_seqItems hTI rfl ?_)
  show wpAny _ _ (Builtin.SmallTypes.ownedTupleIsFree (.ref z) >>= _) _ _ _
  refine wpAny_bind ?_
  unfold Builtin.SmallTypes.ownedTupleIsFree
  refine wpAny_bind (wpAny_field hz rfl (x := .none) rfl (wpAny_pure ?_))
  simp only [if_true]
  refine wpAny_bind (wpAny_rule ?_)
  refine wpAny_bind (wpAny_field hz rfl (x := .ref TO) rfl ?_)
  refine wpAny_bind (wpAny_setField_rec hz (by simp) fun g0 hz0 hs0 => ?_)
  replace hz0 : IsZipS g0 z TI TO .ellipsis := hz0
  replace hs0 : Heap.SameBut z hp g0 := hs0
  refine wpAny_bind ?_
  simp only [List.zipIdx_cons, List.zipIdx_nil, List.forIn_cons, List.forIn_nil]
  refine wpAny_bind (wpAny_bind (wpAny_onRaise ?_))
  show wpAny _ _ (Builtin.SmallTypes.nextOrEnd (.ref i1)) _ _ ⟨g0, g, d, tk0, os⟩
  refine nOE_done D1 (D1.over st1 hs0 S.zf1) fun p1 hp1 => ?_
  replace hp1 : Heap.ExtBut i1 g0 p1 := hp1
  have hz1 : IsZipS p1 z TI TO .ellipsis := hp1 _ _ S.zi1 hz0
  refine wpAny_bind (wpAny_setField_rec (s := ⟨p1, g, d, tk0, os⟩) hz1 (by simp) fun g1 hzz hs1 => ?_)
  replace hs1 : Heap.SameBut z p1 g1 := hs1
  have st2' : St2 n g1 := by
    refine D2.frame _ _ _ (D2.over st2 hs0 S.zf2) fun b hb o e => ?_
    exact hs1.extBut _ _ (fun q => S.zf2 (q ▸ hb)) (hp1 _ _ (sep b hb) e)
  refine wpAny_bind ?_
  refine wpAny_bind ?_
  refine wpAny_bind ?_
  refine wpAny_bind (nOE_done (s := ⟨g1, g, d, tk0, os⟩) D2 st2' fun p2 hp2 => ?_)
  replace hp2 : Heap.ExtBut i2 g1 p2 := hp2
  show wpAny _ _ (pure (ForInStep.yield PUnit.unit)) _ _ _
  refine wpAny_pure ?_
  show wpAny _ _ (pure PUnit.unit) _ _ _
  refine wpAny_pure ?_
  refine wpAny_bind (wpAny_rule ?_)
  unfold Builtin.SmallTypes.stopIteration
  show wpAny _ _ (newExc (.type "StopIteration") [] >>= _) _ _ _
  refine wpAny_bind ?_
  simp only [newExc, newTuple]
  refine wpAny_bind (wpAny_newObj_type ?_ (by size_fits))
  refine wpAny_bind (m := firstArgMember _ _) (wpAny_of_eq (a := Value.none) (by first | rfl | (simp only [firstArgMember]; rfl)) ?_)
  refine wpAny_newObj_type ?_ (by size_fits)
  simp only [raiseNew]
  refine wpAny_bind (wpAny_handled ?_)
  first | rw [show A.in1.handled = none from hh] | rw [hh]
  refine wpAny_bind (wpAny_pure (wpAny_throw ?_))
  refine hE _ _ _ (fun c o cz cT c1 c2 x => ?_) ⟨_, Heap.get?_push_size _ rfl, rfl⟩
  exact Heap.get?_push_of_some _ (Heap.get?_push_of_some _ (hp2 _ _ c2 (hs1.extBut _ _ cz (hp1 _ _ c1 (hs0.extBut _ _ cz x)))))
end
end T

set_option Elab.async false
set_option linter.all false
set_option maxRecDepth 100000
set_option maxHeartbeats 1000000
namespace T
open PySem
open PySem.Sem (wp)
section
variable {prog : Program} {w : World} {A : Around} {E : Value → Shared → Prop} {s : Shared} {z TI TO i1 i2 it : Addr} {fp fp1 fp2 : List Addr} {n n1 n2 i : Nat} {P P1 P2 : Nat → Value → Prop} {St St1 St2 : Nat → Heap → Prop} {a1 a2 : Value}
theorem pyNext_zipS_item {Q : Option Value → Shared → Prop} (S : ZipSep2 z TI TO i1 i2 fp1 fp2) (D1 : Draws prog w A.in1 i1 fp1 n1 P1 St1) (D2 : Draws prog w A.in1 i2 fp2 n2 P2 St2)
    (hz : IsZipS s.heap z TI TO .none) (hTI : IsTupOf2 s.heap TI (.ref i1) (.ref i2)) (hTO : IsTupOf2 s.heap TO a1 a2) (st1 : St1 i s.heap) (st2 : St2 i s.heap) (hlt1 : i < n1) (hlt2 : i < n2)
    (hQ : ∀ x1 x2 h' tk, P1 i x1 → P2 i x2 → IsZipS h' z TI TO (rawInt s.heap.objs.size) → IsTupOf2 h' TO x1 x2 → St1 (i + 1) h' → St2 (i + 1) h' → IsTupOf2 h' s.heap.objs.size x1 x2 → h'.objs.size = s.heap.objs.size + 1 →
      (∀ c o, c ≠ z → c ≠ TO → c ≠ i1 → c ≠ i2 → s.heap.get? c = some o → h'.get? c = some o) → Q (some (.ref s.heap.objs.size)) { s with heap := h', toks := tk }) :
    wpAny (model prog w) A (pyNext (.ref z)) Q E s := by
  have hT : s.TypeIs (.ref z) "zip" := ⟨_, hz, rfl⟩
  unfold pyNext
  exact wpAny_bind (wpAny_attempt (wpAny_callSpecial?_slot (name := Str.ofString "__next__") hT F.slot_zip_next
    (wpAny_call_entry F.slot_zip_next hT F.entry_zip_next
      (zipS2_item S D1 D2 hz hTI hTO st1 st2 hlt1 hlt2 fun x1 x2 h' tk y1 y2 b1 b2 d1 d2 b5 b6 b7 => wpAny_pure (hQ x1 x2 h' tk y1 y2 b1 b2 d1 d2 b5 b6 b7)) (F.args_zip_next_1 _))))
theorem pyNext_zipS_end {Q : Option Value → Shared → Prop} (hh : A.handled = none) (S : ZipSep2 z TI TO i1 i2 fp1 fp2) (D1 : Draws prog w A.in1 i1 fp1 n P1 St1) (D2 : Draws prog w A.in1 i2 fp2 n P2 St2)
    (hz : IsZipS s.heap z TI TO .none) (hTI : IsTupOf2 s.heap TI (.ref i1) (.ref i2)) (hTO : IsTupOf2 s.heap TO a1 a2) (st1 : St1 n s.heap) (st2 : St2 n s.heap) (sep : ∀ b ∈ fp2, b ≠ i1)
    (hQ : ∀ h' tk, (∀ c o, c ≠ z → c ≠ TO → c ≠ i1 → c ≠ i2 → s.heap.get? c = some o → h'.get? c = some o) → Q none { s with heap := h', toks := tk }) : wpAny (model prog w) A (pyNext (.ref z)) Q E s := by
  have hT : s.TypeIs (.ref z) "zip" := ⟨_, hz, rfl⟩
  unfold pyNext
  refine wpAny_bind (wpAny_attempt (wpAny_callSpecial?_slot (name := Str.ofString "__next__") hT F.slot_zip_next
    (wpAny_call_entry F.slot_zip_next hT F.entry_zip_next (zipS2_end (show A.in1.handled = none from hh) S D1 D2 hz hTI hTO st1 st2 sep fun h' tk e hk he => ?_) (F.args_zip_next_1 _))))
  obtain ⟨o, ho, hc⟩ := he
  refine wpAny_bind (wpAny_isInstance (T := "StopIteration") (b := true) ⟨o, ho, hc⟩ isSubtype_stop ?_)
  exact wpAny_pure (hQ _ _ hk)
theorem letGo_zipS {elts : List Expr} {x1} {pos : Pos} {T : Addr} {Q : Unit → Shared → Prop} (hz : IsZipS s.heap z TI TO (rawInt T))
    (hQ : ∀ h', IsZipS h' z TI TO .none → Heap.SameBut z s.heap h' → Q () { s with heap := h' }) :
    wpAny (model prog w) A (letOwnedTupleGo (.Tuple elts x1 pos) (.ref z) (.ref T)) Q E s := by
  unfold letOwnedTupleGo
  refine wpAny_bind (wpAny_load hz ?_)
  show wpAny _ _ (if (["enumerate", "zip", "dict_itemiterator", "dict_reverseitemiterator", "odict_iterator", "itertools.zip_longest", "itertools.pairwise"].contains "zip" &&
      (#[rawInt T, .bool false, .bool true, .ref TI, .ref TO] : Array Value)[0]? == some (rawInt T)) = true then _ else _) Q E s
  rw [if_pos (by simp)]
  refine wpAny_bind (wpAny_rule ?_)
  show wpAny _ _ (setField (.ref z) 0 .none) Q E s
  exact wpAny_setField_rec hz (by simp) fun h' hz' hs' => hQ h' hz' hs'
theorem pyIter_zipS {f0 : Value} {Q : Value → Shared → Prop} (hz : IsZipS s.heap z TI TO f0) (h : Q (.ref z) s) : wpAny (model prog w) A (pyIter (.ref z)) Q E s := by
  have hT : s.TypeIs (.ref z) "zip" := ⟨_, hz, rfl⟩
  refine wpAny_pyIter_slot hT F.slot_zip_iter (wpAny_call_entry F.slot_zip_iter hT F.entry_zip_iter ?_ (F.args_zip_iter_1 _))
  show wpAny _ _ (ret (.ref z)) _ _ s
  exact wpAny_pure ⟨_, rfl, "zip", _, hT, F.slot_zip_next.lookup, h⟩
abbrev gzZS (h : Heap) (o1 o2 : Obj) : Heap := (gzO2 h o1 o2).push { cls := .type "zip", data := .fields #[.none, .bool false, .bool true, .ref ((h.push o1).push o2).objs.size, .ref (gzT2 h o1 o2).objs.size] }
theorem typeCall_zipS (a b c : Value) : checkTypeCall "zip" ⟨[a, b], [(Str.ofString "strict", c)]⟩ = pure () := by kernel_rfl
theorem newCall_zipS (a b c : Value) : checkBuiltinCall "zip.__new__" ⟨[.type "zip", a, b], [(Str.ofString "strict", c)]⟩ = pure () := by kernel_rfl
theorem args_initS (obj a b c : Value) : argsOk "object.__init__" ⟨[obj, a, b], [(Str.ofString "strict", c)]⟩ := by unfold argsOk; kernel_rfl
theorem meets_zipS {v1 v2 : Value} {o1 o2 : Obj} {H1 H2 : Heap → Prop} (B1 : Begins v1 o1 H1) (B2 : Begins v2 o2 H2) :
    Meets (Builtin.«zip.__new__» ⟨[.type "zip", v1, v2], [(Str.ofString "strict", .bool true)]⟩) (fun _ R s => (H1 s.heap ∧ H2 s.heap) ∧
      R (.ok (.ret (.ref (gzO2 s.heap o1 o2).objs.size))) { s with heap := gzZS s.heap o1 o2 }) :=
  .of_wp fun prog w A R s h => by
    obtain ⟨hp, g, d, tk, os⟩ := s; obtain ⟨⟨h1, h2⟩, h⟩ := h
    have hsub := sub_zip
    have q1 : ∀ {A' : Around} {E : Value → Shared → Prop} {Q : Value → Shared → Prop}, Q (.ref hp.objs.size) ⟨(hp.push o1), g, d, tk, os⟩ → wpAny (model prog w) A' (pyIter v1) Q E ⟨hp, g, d, tk, os⟩ :=
      fun q => B1.iter prog w _ _ ⟨hp, g, d, tk, os⟩ _ (B1.keeps _ _ h1 fun b o' e => e) q
    have q2 : ∀ {A' : Around} {E : Value → Shared → Prop} {Q : Value → Shared → Prop}, Q (.ref (hp.push o1).objs.size) ⟨((hp.push o1).push o2), g, d, tk, os⟩ → wpAny (model prog w) A' (pyIter v2) Q E ⟨(hp.push o1), g, d, tk, os⟩ :=
      fun q => B2.iter prog w _ _ ⟨(hp.push o1), g, d, tk, os⟩ _ (B2.keeps _ _ h2 fun b o' e => (Heap.get?_push_of_some _ e)) q
    have e1 : (Str.ofString "strict" != ("strict" : Str)) = false := by decide +kernel
    wp_walk using q1, q2
    exact ⟨_, rfl, h⟩
theorem zipS_begins {v1 v2 : Value} {o1 o2 : Obj} {H1 H2 : Heap → Prop} {Q : Value → Shared → Prop} (B1 : Begins v1 o1 H1) (B2 : Begins v2 o2 H2) (h1 : H1 s.heap) (h2 : H2 s.heap)
    (h : ∀ h', IsZipS h' (s.heap.objs.size + 4) (s.heap.objs.size + 2) (s.heap.objs.size + 3) .none → IsTupOf2 h' (s.heap.objs.size + 2) (.ref s.heap.objs.size) (.ref (s.heap.objs.size + 1)) →
      IsTupOf2 h' (s.heap.objs.size + 3) .none .none → h'.get? s.heap.objs.size = some o1 → h'.get? (s.heap.objs.size + 1) = some o2 → h'.objs.size = s.heap.objs.size + 5 →
      (∀ c o, s.heap.get? c = some o → h'.get? c = some o) → Q (.ref (s.heap.objs.size + 4)) { s with heap := h' }) :
    wpAny (model prog w) A (call (.type "zip") [v1, v2] [(Str.ofString "strict", .bool true)]) Q E s := by
  refine callType_newKw F.called_zip (by decide) (typeCall_zipS _ _ _) (newCall_zipS _ _ _) (fun obj => args_initS obj _ _ _) F.entry_zip_new
    (meets_zipS B1 B2) ⟨⟨h1, h2⟩, ?_⟩
  have z1 : (s.heap.push o1).objs.size = s.heap.objs.size + 1 := by rw [Heap.size_push]
  have z2 : ((s.heap.push o1).push o2).objs.size = s.heap.objs.size + 2 := by rw [Heap.size_push, z1]
  have zT : (gzT2 s.heap o1 o2).objs.size = s.heap.objs.size + 3 := by rw [Heap.size_push, z2]
  have zO : (gzO2 s.heap o1 o2).objs.size = s.heap.objs.size + 4 := by rw [Heap.size_push, zT]
  have zZ : (gzZS s.heap o1 o2).objs.size = s.heap.objs.size + 5 := by rw [Heap.size_push, zO]
  have gZ : (gzZS s.heap o1 o2).get? (gzO2 s.heap o1 o2).objs.size = some { cls := .type "zip", data := .fields #[.none, .bool false, .bool true, .ref ((s.heap.push o1).push o2).objs.size, .ref (gzT2 s.heap o1 o2).objs.size] } := Heap.get?_push_size _ rfl
  have gO : (gzZS s.heap o1 o2).get? (gzT2 s.heap o1 o2).objs.size = some { cls := .type "tuple", data := .seq #[.none, .none] } := Heap.get?_push_of_some _ (Heap.get?_push_size _ rfl)
  have gT : (gzZS s.heap o1 o2).get? ((s.heap.push o1).push o2).objs.size = some { cls := .type "tuple", data := .seq #[.ref s.heap.objs.size, .ref (s.heap.push o1).objs.size] } := Heap.get?_push_of_some _ (Heap.get?_push_of_some _ (Heap.get?_push_size _ rfl))
  have g1 : (gzZS s.heap o1 o2).get? s.heap.objs.size = some o1 := Heap.get?_push_of_some _ (Heap.get?_push_of_some _ (Heap.get?_push_of_some _ (Heap.get?_push_of_some _ (Heap.get?_push_size _ B1.free))))
  have g2 : (gzZS s.heap o1 o2).get? (s.heap.push o1).objs.size = some o2 := Heap.get?_push_of_some _ (Heap.get?_push_of_some _ (Heap.get?_push_of_some _ (Heap.get?_push_size _ B2.free)))
  rw [zO, zT, z2] at gZ
  rw [zT] at gO
  rw [z2, z1] at gT
  rw [z1] at g2
  show _ ∧ _
  rw [zO]
  exact ⟨⟨_, gZ, rfl⟩, h _ gZ gT gO g1 g2 zZ fun c o e => Heap.get?_push_of_some _ (Heap.get?_push_of_some _ (Heap.get?_push_of_some _ (Heap.get?_push_of_some _ (Heap.get?_push_of_some _ e))))⟩
end
end T

set_option Elab.async false
set_option linter.all false
set_option maxRecDepth 100000
set_option maxHeartbeats 1000000
/-! zip and enumerate over lists, tuples, texts. -/
namespace T
open PySem PySem.Spec PyProof.Rows L2
theorem meets_enum1 {v : Value} {o : Obj} {H : Heap → Prop} (B : Begins v o H) :
    Meets (Builtin.«enumerate.__new__» ⟨[.type "enumerate", v], []⟩) (fun _ R s => H s.heap ∧
      R (.ok (.ret (.ref (s.heap.push o).objs.size))) { s with heap := (s.heap.push o).push { cls := .type "enumerate", data := .fields #[.none, .bool false, .ref s.heap.objs.size, rawInt 0, .none, .none] } }) :=
  .of_wp fun prog w A R s h => by
    obtain ⟨hp, g, d, tk, os⟩ := s; obtain ⟨h1, h⟩ := h
    have hsub := sub_enumerate
    have q1 : ∀ {A' : Around} {E : Value → Shared → Prop} {Q : Value → Shared → Prop}, Q (.ref hp.objs.size) ⟨hp.push o, g, d, tk, os⟩ → wpAny (model prog w) A' (pyIter v) Q E ⟨hp, g, d, tk, os⟩ :=
      fun q => B.iter prog w _ _ ⟨hp, g, d, tk, os⟩ _ h1 q
    wp_walk using q1
    refine wpAny_stack_any fun st => wpAny_pure ?_
    split
    · rename_i c _ _ _ _ _
      cases (c == Value.type "enumerate")
      · wp_walk using q1
        exact ⟨_, rfl, h⟩
      · wp_walk using q1
        exact ⟨_, rfl, h⟩
    · wp_walk using q1
      exact ⟨_, rfl, h⟩
theorem enum_begins1 {prog : Program} {w : World} {A : Around} {E : Value → Shared → Prop} {s : Shared} {v : Value} {o : Obj} {H : Heap → Prop} {Q : Value → Shared → Prop} (B : Begins v o H) (h1 : H s.heap)
    (h : ∀ h', IsEnum h' (s.heap.objs.size + 1) s.heap.objs.size 0 .none → h'.get? s.heap.objs.size = some o → h'.objs.size = s.heap.objs.size + 2 →
      (∀ b o, s.heap.get? b = some o → h'.get? b = some o) → Q (.ref (s.heap.objs.size + 1)) { s with heap := h' }) :
    wpAny (model prog w) A (call (.type "enumerate") [v]) Q E s := by
  refine callType_new F.called_enumerate (by decide) (F.typeCall_enumerate_1 _) (F.newCall_enumerate_1 _) (fun obj => F.args_object_init_2 obj _) F.entry_enumerate_new
    (meets_enum1 B) ⟨h1, ?_⟩
  have hz : (s.heap.push o).objs.size = s.heap.objs.size + 1 := Heap.size_push ..
  show _ ∧ _
  rw [hz]
  have he : IsEnum ((s.heap.push o).push { cls := .type "enumerate", data := .fields #[.none, .bool false, .ref s.heap.objs.size, rawInt 0, .none, .none] }) (s.heap.objs.size + 1) s.heap.objs.size 0 .none := by
    have := Heap.get?_push_size (s.heap.push o) (o := { cls := .type "enumerate", data := .fields #[.none, .bool false, .ref s.heap.objs.size, rawInt 0, .none, .none] }) rfl
    rw [hz] at this; exact this
  refine ⟨⟨_, he, rfl⟩, h _ he (Heap.get?_push_of_some _ (Heap.get?_push_size _ B.free)) (by rw [Heap.size_push, hz]) fun b o x => Heap.get?_push_of_some _ (Heap.get?_push_of_some _ x)⟩
/-! ### sources -/
inductive Sk where
  | lst (a : Addr) | tup (a : Addr) | txt (x : List Nat) (t : Tok)
def Sk.cells : Sk → List Addr
  | .lst a => [a]
  | .tup a => [a]
  | .txt _ _ => []
def Sk.st (it : Addr) (i : Nat) (h : Heap) : Sk → Prop
  | .lst a => h.IsListIter it a i
  | .tup a => h.IsTupleIter it a i
  | .txt x t => h.IsStrIter it (strIterType ⟨x.toArray⟩) ⟨x.toArray⟩ t i
def Sk.its (K : PySem.W.Frag) (H : Hp) : Sk → List V → Prop
  | .lst a, vs => SqL K H a vs
  | .tup a, vs => SqT K H a vs
  | .txt x _, vs => vs = x.map fun c => .str ⟨#[c]⟩
theorem Sk.st_obj {k : Sk} {it : Addr} {i : Nat} {h : Heap} (q : k.st it i h) : ∃ o, h.get? it = some o ∧ ∀ v, o.data ≠ .cell v := by
  cases k with
  | lst a => obtain ⟨o, e, _, d⟩ := q; exact ⟨o, e, fun v z => by rw [d] at z; cases z⟩
  | tup a => obtain ⟨o, e, _, d⟩ := q; exact ⟨o, e, fun v z => by rw [d] at z; cases z⟩
  | txt x t => obtain ⟨o, e, _, d⟩ := q; exact ⟨o, e, fun v z => by rw [d] at z; cases z⟩
theorem Sk.st_keep {k : Sk} {it : Addr} {i : Nat} {h h' : Heap} (q : k.st it i h) (kp : ∀ o, h.get? it = some o → h'.get? it = some o) : k.st it i h' := by
  cases k with
  | lst a => obtain ⟨o, e, r⟩ := q; exact ⟨o, kp o e, r⟩
  | tup a => obtain ⟨o, e, r⟩ := q; exact ⟨o, kp o e, r⟩
  | txt x t => obtain ⟨o, e, r⟩ := q; exact ⟨o, kp o e, r⟩
theorem Sk.inj {X : Cx} {pins : List (Addr × Obj)} {σ : L2.St} {H : Hp} {s : Shared} {k : Sk} {xs ys : List V} (I : Inv X pins σ H s) (h : k.its X.K H xs) (h' : k.its X.K H ys) : xs = ys := by
  cases k with
  | lst a => exact I.list_inj h h'
  | tup a => exact I.tuple_inj h h'
  | txt x t => exact Eq.trans h (Eq.symm h')
theorem vals_back : ∀ {vs : List V} {us : List Value} {j : Nat} {x : Value}, Vals vs us → us[j]? = some x → ∃ v, vs[j]? = some v ∧ RelV v x
  | _, _, _, _, .nil, e => by simp at e
  | _, _, 0, _, .cons r _, e => by simp at e; subst e; exact ⟨_, rfl, r⟩
  | _, _, j + 1, _, .cons _ t, e => by
    obtain ⟨v, h1, h2⟩ := vals_back (j := j) t (by simpa using e)
    exact ⟨v, by simpa using h1, h2⟩
theorem Sk.draws {X : Cx} {pins : List (Addr × Obj)} {σ : L2.St} {H : Hp} {s : Shared} {A : Around} {k : Sk} {vs : List V} {it : Addr} {i : Nat} (I : Inv X pins σ H s) (hi : k.its X.K H vs) (st : k.st it i s.heap) (hne : it ∉ k.cells) (hh : A.handled = none) :
    ∃ (P : Nat → Value → Prop) (St : Nat → Heap → Prop), Draws X.prog X.w A it (it :: k.cells) vs.length P St ∧ St i s.heap ∧ (∀ j x, P j x → ∃ v, vs[j]? = some v ∧ RelV v x) ∧ ∀ j h, St j h → k.st it j h := by
  cases k with
  | lst a =>
    obtain ⟨its, rv, p, _⟩ := I.list hi
    have hne : a ≠ it := fun e => hne (by simp [Sk.cells, e])
    have hd := Draws.list (prog := X.prog) (w := X.w) hh it a hne its.toArray
    rw [List.size_toArray, ← rv.length] at hd
    exact ⟨_, _, hd, ⟨st, p.isList⟩, fun j x e => vals_back rv (by simpa using e), fun j h q => q.1⟩
  | tup a =>
    obtain ⟨its, rv, p, _⟩ := I.tuple hi
    have hne : a ≠ it := fun e => hne (by simp [Sk.cells, e])
    have hd := Draws.tuple (prog := X.prog) (w := X.w) hh it a hne its.toArray
    rw [List.size_toArray, ← rv.length] at hd
    exact ⟨_, _, hd, ⟨st, p⟩, fun j x e => vals_back rv (by simpa using e), fun j h q => q.1⟩
  | txt x t =>
    have hi : vs = x.map fun c => .str ⟨#[c]⟩ := hi
    subst hi
    have hd := Draws.text (prog := X.prog) (w := X.w) hh it ⟨x.toArray⟩ t
    rw [show (⟨x.toArray⟩ : Str).cps.size = (x.map fun c => V.str ⟨#[c]⟩).length by simp] at hd
    refine ⟨_, _, hd, st, fun j v e => ?_, fun j h q => q⟩
    obtain ⟨c, u, e1, rfl⟩ := e
    have e1 : x[j]? = some c := by simpa using e1
    exact ⟨.str ⟨#[c]⟩, by simp [e1], ⟨u, rfl⟩⟩
/-! ### zip of two -/
def ZB (b : Bool) (h : Heap) (z TI TO : Addr) (f0 : Value) : Prop := match b with
  | true => IsZipS h z TI TO f0
  | false => IsZip h z TI TO f0
theorem ZB.obj {b : Bool} {h : Heap} {z TI TO : Addr} {f0 : Value} (q : ZB b h z TI TO f0) : ∃ o, h.get? z = some o ∧ ∀ v, o.data ≠ .cell v := by
  cases b <;> exact ⟨_, q, fun v z => nomatch z⟩
theorem ZB.keep {b : Bool} {h h' : Heap} {z TI TO : Addr} {f0 : Value} (q : ZB b h z TI TO f0) (kp : ∀ o, h.get? z = some o → h'.get? z = some o) : ZB b h' z TI TO f0 := by
  cases b <;> exact kp _ q
def It2 (K : PySem.W.Frag) (k1 k2 : Sk) (b : Bool) : L2.It :=
  ⟨fun i H => ∃ (xs ys : List V) (x y : V), k1.its K H xs ∧ k2.its K H ys ∧ xs[i]? = some x ∧ ys[i]? = some y,
    fun i H v H' => ∃ T x y, v = .ref T ∧ H T = none ∧ H' = upd H T (.tup [x, y]) ∧ (∀ xs, k1.its K H xs → xs[i]? = some x) ∧ ∀ ys, k2.its K H ys → ys[i]? = some y,
    fun i H => ∃ xs ys : List V, k1.its K H xs ∧ k2.its K H ys ∧ i ≤ xs.length ∧ i ≤ ys.length ∧ (i = xs.length ∨ i = ys.length) ∧ (b = true → xs.length = ys.length)⟩
theorem turn_zipK {P : Program} {w : World} {K : PySem.W.Frag} {elts : List Expr} {kk : Nat} {tpos : Pos} {k1 k2 : Sk} {b : Bool} {z TI TO i1 i2 : Addr} (D : ZipSep2 z TI TO i1 i2 (i1 :: k1.cells) (i2 :: k2.cells)) (n1 : i1 ∉ k1.cells) (n2 : i2 ∉ k2.cells) :
    Turn P w K (.Tuple elts kk tpos) (It2 K k1 k2 b) [z, TI, TO, i1, i2] z (fun i h => ZB b h z TI TO .none ∧ IsTupOf2 h TI (.ref i1) (.ref i2) ∧ (∃ x y, IsTupOf2 h TO x y) ∧ k1.st i1 i h ∧ k2.st i2 i h) where
  mem := by simp
  obj := fun i h st c hc => by
    obtain ⟨hz, hTI, ⟨x, y, hTO⟩, h1, h2⟩ := st
    have e' : c = z ∨ c = TI ∨ c = TO ∨ c = i1 ∨ c = i2 := by simpa using hc
    rcases e' with q | q | q | q | q
    · rw [q]; exact hz.obj
    · rw [q]; exact ⟨_, hTI, fun v q => nomatch q⟩
    · rw [q]; exact ⟨_, hTO, fun v q => nomatch q⟩
    · rw [q]; exact Sk.st_obj h1
    · rw [q]; exact Sk.st_obj h2
  keep := fun i h h' st k => by
    obtain ⟨hz, hTI, ⟨x, y, hTO⟩, h1, h2⟩ := st
    exact ⟨hz.keep fun o q => k z (by simp) o q, k TI (by simp) _ hTI, ⟨x, y, k TO (by simp) _ hTO⟩, Sk.st_keep h1 fun o q => k i1 (by simp) o q, Sk.st_keep h2 fun o q => k i2 (by simp) o q⟩
  item := by
    intro X hP hw hK hc i pins s σ H E I hf st hg
    subst hP hw hK
    obtain ⟨hz, hTI, ⟨x0, y0, hTO⟩, h1, h2⟩ := st
    obtain ⟨xs, ys, x, y, hqx, hqy, hx, hy⟩ := hg
    have hh : X.A.in1.handled = none := I.ok.hd hc
    obtain ⟨P1, S1, D1, st1, p1, r1⟩ := Sk.draws (A := X.A.in1) I hqx h1 n1 hh
    obtain ⟨P2, S2, D2, st2, p2, r2⟩ := Sk.draws (A := X.A.in1) I hqy h2 n2 hh
    have l1 : i < xs.length := (List.getElem?_eq_some_iff.mp hx).1
    have l2 : i < ys.length := (List.getElem?_eq_some_iff.mp hy).1
    have hzl : z < s.heap.objs.size := by
      obtain ⟨o, e, _⟩ := hz.obj
      exact Heap.lt_size e
    have key : ∀ (x1 x2 : Value) (h' : Heap) (tk : Tok), P1 i x1 → P2 i x2 → ZB b h' z TI TO (rawInt s.heap.objs.size) → IsTupOf2 h' TO x1 x2 → S1 (i + 1) h' → S2 (i + 1) h' → IsTupOf2 h' s.heap.objs.size x1 x2 → h'.objs.size = s.heap.objs.size + 1 →
        (∀ c o, c ≠ z → c ≠ TO → c ≠ i1 → c ≠ i2 → s.heap.get? c = some o → h'.get? c = some o) →
        ∃ u, some (Value.ref s.heap.objs.size) = some u ∧ wpAny (model X.prog X.w) X.A (letOwnedTupleGo (.Tuple elts kk tpos) (.ref z) u) (fun _ s2 => ∃ x H', Inv X pins σ H' s2 ∧ RelV x u ∧ (It2 X.K k1 k2 b).yld i H x H' ∧ (ZB b s2.heap z TI TO .none ∧ IsTupOf2 s2.heap TI (.ref i1) (.ref i2) ∧ (∃ x y, IsTupOf2 s2.heap TO x y) ∧ k1.st i1 (i + 1) s2.heap ∧ k2.st i2 (i + 1) s2.heap) ∧ ∀ b ∈ [z, TI, TO, i1, i2], H' b = none) E { s with heap := h', toks := tk } := by
      intro x1 x2 h' tk hp1 hp2 z' TO' s1' s2' hT hsz hk
      obtain ⟨v1, e1, rv1⟩ := p1 _ _ hp1
      obtain ⟨v2, e2, rv2⟩ := p2 _ _ hp2
      rw [hx] at e1; cases e1
      rw [hy] at e2; cases e2
      refine ⟨_, rfl, ?_⟩
      have fin : ∀ h'', ZB b h'' z TI TO .none → Heap.SameBut z h' h'' → (∃ x H', Inv X pins σ H' { s with heap := h'', toks := tk } ∧ RelV x (Value.ref s.heap.objs.size) ∧ (It2 X.K k1 k2 b).yld i H x H' ∧ (ZB b h'' z TI TO .none ∧ IsTupOf2 h'' TI (.ref i1) (.ref i2) ∧ (∃ x y, IsTupOf2 h'' TO x y) ∧ k1.st i1 (i + 1) h'' ∧ k2.st i2 (i + 1) h'') ∧ ∀ b ∈ [z, TI, TO, i1, i2], H' b = none) := by
        intro h'' z'' sb
        have hT2 : h''.get? s.heap.objs.size = some { cls := .type "tuple", data := .seq #[x1, x2] } := (sb.2 _ (Nat.ne_of_gt hzl)).trans hT
        have new : ObjOk X.prog X.w (upd H s.heap.objs.size (.tup [x, y])) h'' s.heap.objs.size (.tup [x, y]) :=
          ⟨by show 2 ≤ sizeLine; decide, [x1, x2], .cons rv1 (.cons rv2 .nil), ⟨_, hT2, rfl, _, rfl⟩⟩
        have I1 : Inv X pins σ (upd H s.heap.objs.size (.tup [x, y])) { s with heap := h'', toks := tk } :=
          I.turnedNew (t' := tk) (ch := [z, TI, TO, i1, i2]) (fun c o hb q => (sb.2 c (fun q' => hb (by simp [q']))).trans (hk c o (fun q' => hb (by simp [q'])) (fun q' => hb (by simp [q'])) (fun q' => hb (by simp [q'])) (fun q' => hb (by simp [q'])) q)) hf (Nat.le_refl _) new
        refine ⟨.ref s.heap.objs.size, _, I1, rfl, ⟨_, x, y, rfl, I.hok.fresh (Nat.le_refl _), rfl, fun l hl => by rw [Sk.inj I hl hqx]; exact hx, fun l hl => by rw [Sk.inj I hl hqy]; exact hy⟩, ⟨z'', ?_, ⟨x1, x2, ?_⟩, ?_, ?_⟩, fun c hcm => ?_⟩
        · exact (sb.2 _ D.TIz).trans (hk _ _ D.TIz D.TITO D.TIi1 D.TIi2 hTI)
        · exact (sb.2 _ D.TOz).trans TO'
        · exact Sk.st_keep (r1 _ _ s1') fun o q => (sb.2 _ (Ne.symm D.zi1)).trans q
        · exact Sk.st_keep (r2 _ _ s2') fun o q => (sb.2 _ (Ne.symm D.zi2)).trans q
        · have hlt : c < s.heap.objs.size := by
            have e' : c = z ∨ c = TI ∨ c = TO ∨ c = i1 ∨ c = i2 := by simpa using hcm
            rcases e' with q | q | q | q | q
            · rw [q]; exact hzl
            · rw [q]; exact Heap.lt_size hTI
            · rw [q]; exact Heap.lt_size hTO
            · rw [q]; obtain ⟨_, e1, _⟩ := Sk.st_obj h1; exact Heap.lt_size e1
            · rw [q]; obtain ⟨_, e1, _⟩ := Sk.st_obj h2; exact Heap.lt_size e1
          rw [upd_ne (Nat.ne_of_lt hlt)]
          exact (hf c hcm).1
      cases b with
      | true => exact letGo_zipS (s := { s with heap := h', toks := tk }) z' fun h'' z'' sb => fin h'' z'' sb
      | false => exact wpAny_letOwnedTupleGo_zip (s := { s with heap := h', toks := tk }) z' fun h'' z'' sb => fin h'' z'' sb
    cases b with
    | true => exact pyNext_zipS_item D D1 D2 hz hTI hTO st1 st2 l1 l2 key
    | false => exact wpAny_pyNext_zipD2_item D D1 D2 hz hTI hTO st1 st2 l1 l2 key
  done := by
    intro X hP hw hK hc i pins s σ H E I hf st hg
    subst hP hw hK
    obtain ⟨hz, hTI, ⟨x0, y0, hTO⟩, h1, h2⟩ := st
    obtain ⟨xs, ys, hqx, hqy, hl1, hl2, hend, hst⟩ := hg
    have hh : X.A.in1.handled = none := I.ok.hd hc
    obtain ⟨P1, S1, D1, st1, p1, r1⟩ := Sk.draws (A := X.A.in1) I hqx h1 n1 hh
    obtain ⟨P2, S2, D2, st2, p2, r2⟩ := Sk.draws (A := X.A.in1) I hqy h2 n2 hh
    have fin : ∀ h' tk, (∀ c o, c ≠ z → c ≠ TO → c ≠ i1 → c ≠ i2 → s.heap.get? c = some o → h'.get? c = some o) → Inv X pins σ H { s with heap := h', toks := tk } := fun h' tk hk => I.turnedL (t' := tk) (ch := [z, TI, TO, i1, i2]) (fun c o hb q =>
      hk c o (fun q' => hb (by simp [q'])) (fun q' => hb (by simp [q'])) (fun q' => hb (by simp [q'])) (fun q' => hb (by simp [q'])) q) hf
    cases b with
    | true =>
      have e1 : xs.length = ys.length := hst rfl
      have ei : i = xs.length := by omega
      rw [ei] at st1 st2
      rw [← e1] at D2
      exact pyNext_zipS_end (I.ok.hd hc) D D1 D2 hz hTI hTO st1 st2 (fun c hcm e => D.sep1_2 (by rw [← e]; exact hcm)) fun h' tk hk => ⟨rfl, fin h' tk hk⟩
    | false => exact wpAny_pyNext_zipD2_end D D1 D2 hz hTI hTO st1 st2 hl1 hl2 hend fun h' tk hk => ⟨rfl, fin h' tk hk⟩
  self := fun A i s Q E st h => by
    cases b with
    | true => exact pyIter_zipS st.1 h
    | false => exact wpAny_pyIter_zip st.1 h
/-! ### enumerate -/
def It1 (K : PySem.W.Frag) (k : Sk) (c : Int) : L2.It :=
  ⟨fun i H => ∃ (xs : List V) (x : V), k.its K H xs ∧ xs[i]? = some x,
    fun i H v H' => ∃ T x, v = .ref T ∧ H T = none ∧ H' = upd H T (.tup [.int (c + (i : Int)), x]) ∧ ∀ xs, k.its K H xs → xs[i]? = some x,
    fun i H => ∃ xs : List V, k.its K H xs ∧ i = xs.length⟩
theorem turn_enumK {P : Program} {w : World} {K : PySem.W.Frag} {elts : List Expr} {kk : Nat} {tpos : Pos} {k : Sk} {c : Int} {e it : Addr} (hne : e ≠ it) (hek : e ∉ k.cells) (hik : it ∉ k.cells) :
    Turn P w K (.Tuple elts kk tpos) (It1 K k c) [e, it] e (fun i h => (∃ old, IsEnum h e it (c + (i : Int)) old) ∧ k.st it i h) where
  mem := by simp
  obj := fun i h st b hb => by
    obtain ⟨⟨old, he⟩, h1⟩ := st
    have e' : b = e ∨ b = it := by simpa using hb
    rcases e' with z | z
    · rw [z]; exact ⟨_, he, fun v q => nomatch q⟩
    · rw [z]; exact Sk.st_obj h1
  keep := fun i h h' st k => let ⟨⟨old, he⟩, hi⟩ := st; ⟨⟨old, k e (by simp) _ he⟩, Sk.st_keep hi fun o q => k it (by simp) o q⟩
  item := by
    intro X hP hw hK hc i pins s σ H E I hf st hg
    subst hP hw hK
    obtain ⟨⟨old, he⟩, hit⟩ := st
    obtain ⟨xs, x, hq, hx⟩ := hg
    have hh : X.A.in1.handled = none := I.ok.hd hc
    obtain ⟨P1, S1, D1, st1, p1, r1⟩ := Sk.draws (A := X.A.in1) I hq hit hik hh
    have l1 : i < xs.length := (List.getElem?_eq_some_iff.mp hx).1
    have hel : e < s.heap.objs.size := Heap.lt_size he
    have hil : it < s.heap.objs.size := by obtain ⟨_, q, _⟩ := Sk.st_obj hit; exact Heap.lt_size q
    have hef : e ∉ it :: k.cells := fun z => by
      rcases List.mem_cons.mp z with z | z
      · exact hne z
      · exact hek z
    refine wpAny_pyNext_enum_itemC D1 he st1 l1 hne hef fun u h' tk hp ho s1' hT hsz hk => ?_
    obtain ⟨v1, e1, ru⟩ := p1 _ _ hp
    rw [hx] at e1; cases e1
    refine ⟨_, rfl, wpAny_letOwnedTupleGo_enum (s := { s with heap := h', toks := tk + 1 }) ho fun h'' he' sb => ?_⟩
    have hT2 : h''.get? s.heap.objs.size = some { cls := .type "tuple", data := .seq #[.int (c + (i : Int)) tk, u] } := (sb.2 _ (Nat.ne_of_gt hel)).trans hT
    have new : ObjOk X.prog X.w (upd H s.heap.objs.size (.tup [.int (c + (i : Int)), x])) h'' s.heap.objs.size (.tup [.int (c + (i : Int)), x]) :=
      ⟨by show 2 ≤ sizeLine; decide, [.int (c + (i : Int)) tk, u], .cons ⟨_, rfl⟩ (.cons ru .nil), ⟨_, hT2, rfl, _, rfl⟩⟩
    have I1 : Inv X pins σ (upd H s.heap.objs.size (.tup [.int (c + (i : Int)), x])) { s with heap := h'', toks := tk + 1 } :=
      I.turnedNew (t' := tk + 1) (ch := [e, it]) (fun b ob hb q => (sb.2 b (fun z => hb (by simp [z]))).trans (hk b ob (fun z => hb (by simp [z])) (fun z => hb (by simp [z])) q)) hf (Nat.le_refl _) new
    refine ⟨.ref s.heap.objs.size, _, I1, rfl, ⟨_, x, rfl, I.hok.fresh (Nat.le_refl _), rfl, fun ys hy => by rw [Sk.inj I hy hq]; exact hx⟩, ⟨⟨u, ?_⟩, Sk.st_keep (r1 _ _ s1') fun o q => (sb.2 it (Ne.symm hne)).trans q⟩, fun b hb => ?_⟩
    · have e1 : (c + ((i + 1 : Nat) : Int)) = c + (i : Int) + 1 := by omega
      rw [e1]; exact he'
    · have hb' : b < s.heap.objs.size := by
        have e' : b = e ∨ b = it := by simpa using hb
        rcases e' with z | z
        · rw [z]; exact hel
        · rw [z]; exact hil
      rw [upd_ne (Nat.ne_of_lt hb')]
      exact (hf b hb).1
  done := by
    intro X hP hw hK hc i pins s σ H E I hf st hg
    subst hP hw hK
    obtain ⟨⟨old, he⟩, hit⟩ := st
    obtain ⟨xs, hq, hx⟩ := hg
    have hh : X.A.in1.handled = none := I.ok.hd hc
    obtain ⟨P1, S1, D1, st1, p1, r1⟩ := Sk.draws (A := X.A.in1) I hq hit hik hh
    rw [hx] at st1
    exact wpAny_pyNext_enum_endD D1 he st1 fun h' eb => ⟨rfl, I.turnedL (t' := s.toks) (ch := [e, it]) (fun c o hb q => eb c o (fun q' => hb (by simp [q'])) q) hf⟩
  self := fun A i s Q E st h => let ⟨⟨_, he⟩, _⟩ := st; wpAny_pyIter_enum he h
end T

set_option Elab.async false
set_option linter.all false
set_option maxRecDepth 100000
set_option maxHeartbeats 1000000
/-! zip, enumerate: semantics and rules. -/
namespace T
open PySem PySem.Spec PyProof.Rows L2
def srcL (d : D) (S : Store) : Option (List D) := match d with
  | .tup ds => some ds
  | .str x => some (x.map fun c => .str [c])
  | .ref n => cellL S[n]?
  | _ => none
def zipAt (b : Bool) (l l' : List D) (i : Nat) : Option (Option D) :=
  match l[i]?, l'[i]? with
  | some p, some q => some (some (.tup [p, q]))
  | _, _ => if i ≤ l.length ∧ i ≤ l'.length ∧ (b = true → l.length = l'.length) then some none else none
def zipIt (b : Bool) (x y : D) (S : Store) : Option It := match srcL x S, srcL y S with
  | some l, some l' => some ⟨min l.length l'.length, fun i S' => match srcL x S', srcL y S' with
    | some l, some l' => zipAt b l l' i
    | _, _ => none⟩
  | _, _ => none
def iZip (b : Bool) (l : LEv) : IEv := fun ρ S => (l ρ S).bind fun ds S1 => match ds with
  | [x, y] => match zipIt b x y S1 with
    | some J => .ok J S1
    | none => .err
  | _ => .err
def enAt (c : Int) (l : List D) (i : Nat) : Option (Option D) := match l[i]? with
  | some p => some (some (.tup [.int (c + (i : Int)), p]))
  | none => if i = l.length then some none else none
def enIt (c : Int) (x : D) (S : Store) : Option It := match srcL x S with
  | some l => some ⟨l.length, fun i S' => match srcL x S' with
    | some l => enAt c l i
    | none => none⟩
  | none => none
def iEnum1 (l : LEv) : IEv := fun ρ S => (l ρ S).bind fun ds S1 => match ds with
  | [x] => match enIt 0 x S1 with
    | some J => .ok J S1
    | none => .err
  | _ => .err
def iEnum2 (l : LEv) : IEv := fun ρ S => (l ρ S).bind fun ds S1 => match ds with
  | [x, .int c] => if okR c = true then (match enIt c x S1 with
    | some J => .ok J S1
    | none => .err) else .err
  | _ => .err
section
variable {X : Cx} {e a b : Expr} {es : List Expr} {pos : Pos}
theorem src_begin {pins : List (Addr × Obj)} {σ : L2.St} {H : Hp} {s : Shared} {m : List Addr} {S : Store} {d : D} {v : V} {u : Value} {l : List D} (I : Inv X pins σ H s) (r : Rel X.K m S H) (h : RD X.K m H d v) (ru : RelV v u) (e : srcL d S = some l) :
    ∃ (k : Sk) (o : Obj) (Hp : Heap → Prop), Begins u o Hp ∧ Hp s.heap ∧ (∀ h it, h.get? it = some o → k.st it 0 h) ∧ (∀ b ∈ k.cells, b < s.heap.objs.size) ∧
      ∀ m' S' H' l', Step m H m' H' → Rel X.K m' S' H' → srcL d S' = some l' → ∃ vs, k.its X.K H' vs ∧ RDs X.K m' H' l' vs := by
  cases d with
  | tup ds =>
    obtain ⟨a, vs, rfl, ht, hr⟩ := h
    cases ru
    obtain ⟨its, rv, p, _⟩ := I.tuple ht.sq
    obtain ⟨o1, ho1, _⟩ := id p
    refine ⟨.tup a, _, _, begins_tuple a its.toArray, p, fun h it e => ⟨_, e, rfl, rfl⟩, fun b hb => ?_, fun m' S' H' l' st r' e' => ?_⟩
    · rw [show b = a by simpa [Sk.cells] using hb]; exact Heap.lt_size ho1
    · cases e'
      exact ⟨vs, (ht.step st).sq, hr.step st⟩
  | str x =>
    cases h
    obtain ⟨t, rfl⟩ := ru
    refine ⟨.txt x t, _, _, begins_text ⟨x.toArray⟩ t, trivial, fun h it e => ⟨_, e, rfl, rfl⟩, fun b hb => by simp [Sk.cells] at hb, fun m' S' H' l' st r' e' => ?_⟩
    cases e'
    refine ⟨_, rfl, ?_⟩
    clear e
    induction x with
    | nil => rfl
    | cons c r ih => exact ⟨_, _, rfl, rfl, ih⟩
  | ref n =>
    obtain ⟨a, hm, rfl⟩ := h
    cases ru
    obtain ⟨vs, hq, hr⟩ := r.cellL hm e
    obtain ⟨its, rv, p, _⟩ := I.list hq
    obtain ⟨o1, ho1, _⟩ := id p.isList
    refine ⟨.lst a, _, _, begins_list a its.toArray, p.isList, fun h it e => ⟨_, e, rfl, rfl⟩, fun b hb => ?_, fun m' S' H' l' st r' e' => r'.cellL (st.get hm) e'⟩
    rw [show b = a by simpa [Sk.cells] using hb]; exact Heap.lt_size ho1
  | non => cases e
  | bl _ => cases e
  | int _ => cases e
theorem vals2' {x y : V} {us : List Value} (r : Vals [x, y] us) : ∃ u v, us = [u, v] ∧ RelV x u ∧ RelV y v := Vals.two r
theorem zip_go {tg : Expr} {elts : List Expr} {kk : Nat} {tpos : Pos} {b : Bool} {pins : List (Addr × Obj)} {σ : L2.St} {H : Hp} {s : Shared} {m : List Addr} {S : Store} {x y : D} {v w : V} {u u' : Value} {J : It} {R : L2.It → Hp → Prop} (htg : tg = .Tuple elts kk tpos)
    (I : Inv X pins σ H s) (r : Rel X.K m S H) (h : RD X.K m H x v) (h' : RD X.K m H y w) (ru : RelV v u) (ru' : RelV w u') (e : zipIt b x y S = some J)
    (q : ∀ J', ItSim X.K J' J.at_ m H true → R J' H) : wpAny (model X.prog X.w) X.A (call (.type "zip") [u, u'] (if b = true then [(Str.ofString "strict", .bool true)] else [])) (fun z s1 => wpAny (model X.prog X.w) X.A (pyIter z) (PIE X pins σ tg R) X.xe s1) X.xe s := by
  subst htg
  unfold zipIt at e
  split at e
  · rename_i l l' el el'
    cases e
    obtain ⟨k1, o1, P1, B1, hp1, s1, c1, f1⟩ := src_begin I r h ru el
    obtain ⟨k2, o2, P2, B2, hp2, s2, c2, f2⟩ := src_begin I r h' ru' el'
    have lt5 : ∀ c, c ∈ [s.heap.objs.size + 4, s.heap.objs.size + 2, s.heap.objs.size + 3, s.heap.objs.size, s.heap.objs.size + 1] → FpOk X pins H c := fun c hcm => by
      have e' : c = s.heap.objs.size + 4 ∨ c = s.heap.objs.size + 2 ∨ c = s.heap.objs.size + 3 ∨ c = s.heap.objs.size ∨ c = s.heap.objs.size + 1 := by simpa using hcm
      have hle : s.heap.objs.size ≤ c := by
        rcases e' with z | z | z | z | z
        · rw [z]; exact Nat.le_add_right _ _
        · rw [z]; exact Nat.le_add_right _ _
        · rw [z]; exact Nat.le_add_right _ _
        · rw [z]; exact Nat.le_refl _
        · rw [z]; exact Nat.le_add_right _ _
      exact I.fpOk hle (I.hok.fresh hle)
    have D := zip_sep2 (N := s.heap.objs.size) c1 c2
    have n1 : s.heap.objs.size ∉ k1.cells := fun z => absurd (c1 _ z) (Nat.lt_irrefl _)
    have n2 : s.heap.objs.size + 1 ∉ k2.cells := fun z => absurd (c2 _ z) (by exact Nat.not_lt.mpr (Nat.le_add_right _ _))
    have sim : ItSim X.K (It2 X.K k1 k2 b) (fun i S' => match srcL x S', srcL y S' with
      | some l, some l' => zipAt b l l' i
      | _, _ => none) m H true := by
      refine ⟨fun m' S' H' i st r' e1 => ?_, fun m' S' H' i d st r' e1 => ?_⟩
      · split at e1
        · rename_i l1 l2 g1 g2
          obtain ⟨xs, q1, z1⟩ := f1 m' S' H' l1 st r' g1
          obtain ⟨ys, q2, z2⟩ := f2 m' S' H' l2 st r' g2
          unfold zipAt at e1
          split at e1
          · cases e1
          · rename_i hno
            split at e1
            · rename_i hc
              refine ⟨xs, ys, q1, q2, by rw [z1.length]; exact hc.1, by rw [z2.length]; exact hc.2.1, ?_, by rw [z1.length, z2.length]; exact hc.2.2⟩
              rw [z1.length, z2.length]
              by_cases g : i < l1.length
              · by_cases g' : i < l2.length
                · exact absurd (List.getElem?_eq_getElem g') (hno _ _ (List.getElem?_eq_getElem g))
                · exact .inr (by omega)
              · exact .inl (by omega)
            · cases e1
        · cases e1
      · split at e1
        · rename_i l1 l2 g1 g2
          obtain ⟨xs, q1, z1⟩ := f1 m' S' H' l1 st r' g1
          obtain ⟨ys, q2, z2⟩ := f2 m' S' H' l2 st r' g2
          unfold zipAt at e1
          split at e1
          · rename_i p p' a1 a2
            cases e1
            obtain ⟨w1, b1, d1⟩ := z1.get a1
            obtain ⟨w2, b2, d2⟩ := z2.get a2
            refine ⟨⟨xs, ys, w1, w2, q1, q2, b1, b2⟩, fun z H2 hy => ?_⟩
            obtain ⟨T, x', y', rfl, hT, rfl, t1, t2⟩ := hy
            have e3 := t1 xs q1
            rw [b1] at e3; cases e3
            have e4 := t2 ys q2
            rw [b2] at e4; cases e4
            have stn : Step m' H' m' (upd H' T (.tup [w1, w2])) := step_new hT
            refine ⟨stn, r'.new hT, ?_⟩
            simp only [if_true]
            exact .inr ⟨[p, p'], T, [w1, w2], rfl, rfl, .inl (.inl upd_same), ⟨_, _, rfl, d1.step stn, _, _, rfl, d2.step stn, rfl⟩⟩
          · split at e1 <;> cases e1
        · cases e1
    have stv := q _ sim
    cases b with
    | true =>
      refine zipS_begins B1 B2 hp1 hp2 fun h' hz hTI hTO g1 g2 hsz hk => pyIter_zipS hz ?_
      have I2 : Inv X pins σ H { s with heap := h' } := I.kept (t' := s.toks) hk
      exact ⟨s.heap.objs.size + 4, [s.heap.objs.size + 4, s.heap.objs.size + 2, s.heap.objs.size + 3, s.heap.objs.size, s.heap.objs.size + 1], _, _, H, rfl, I2, turn_zipK (b := true) D n1 n2, ⟨hz, hTI, ⟨_, _, hTO⟩, s1 _ _ g1, s2 _ _ g2⟩, lt5, stv⟩
    | false =>
      refine zip_begins2 B1 B2 hp1 hp2 fun h' hz hTI hTO g1 g2 hsz hk => wpAny_pyIter_zip hz ?_
      have I2 : Inv X pins σ H { s with heap := h' } := I.kept (t' := s.toks) hk
      exact ⟨s.heap.objs.size + 4, [s.heap.objs.size + 4, s.heap.objs.size + 2, s.heap.objs.size + 3, s.heap.objs.size, s.heap.objs.size + 1], _, _, H, rfl, I2, turn_zipK (b := false) D n1 n2, ⟨hz, hTI, ⟨_, _, hTO⟩, s1 _ _ g1, s2 _ _ g2⟩, lt5, stv⟩
  · cases e
theorem i_zip {elts : List Expr} {kk : Nat} {tpos p : Pos} {l : LEv} (hg : Gl X "zip") (hm : X.mg "zip" = none) (ha : PA X [a, b] (tL X.K l)) (hs : starEach [a, b] X.env = (false, eval a X.env) :: starEach [b] X.env) (hpl : (backTo pos (starEach [b] X.env)).any (·.1) = false) :
    PI X (.Tuple elts kk tpos) (.Call (.Name "zip" p) [a, b] [] pos) (tI X.K (T.iZip false l) true) := by
  refine ⟨fun pins s σ H R I ⟨m, S, ρ, r, rs, q⟩ => ?_⟩
  have h1 : tL X.K l σ H fun vs H1 => ∃ m1 S1 x y v w J, vs = [v, w] ∧ Rel X.K m1 S1 H1 ∧ RD X.K m1 H1 x v ∧ RD X.K m1 H1 y w ∧ zipIt false x y S1 = some J ∧ ∀ J', ItSim X.K J' J.at_ m1 H1 true → R J' H1 := by
    refine tL_on r rs (goodR_bind.mp q) fun ds S1 m1 H1 vs q1 st1 r1 rs1 d1 => ?_
    split at q1
    · rename_i x y
      obtain ⟨v, vr, rfl, dv, w, wr, rfl, dw, rfl⟩ := d1
      split at q1
      · rename_i J hJ
        exact ⟨m1, S1, x, y, v, w, J, rfl, r1, dv, dw, hJ, fun J' sim => q1 m1 H1 J' st1 r1 sim⟩
      · exact q1.elim
    · exact q1.elim
  refine Call_ (ld_blt I hg hm PyProof.Rows.boot_zip (PyProof.Rows.callWith_type1 (thn (ha.run pos pins s σ H _ I h1) fun us s1 ⟨vs, H1, I1, rv, m1, S1, x, y, v, w, J, ev, r1, dv, dw, hJ, k⟩ => ?_) hs hpl))
  subst ev
  obtain ⟨u, u', rfl, ru, ru'⟩ := Vals.two rv
  exact zip_go (b := false) rfl I1 r1 dv dw ru ru' hJ k
theorem callWith_tyK {M : Model} {A : Around} {E : Value → Shared → Prop} {s : Shared} {pos : Pos} {T : String} {args : List (Bool × Sem Value)} {keywords : List (Option Str × Sem Value)} {Q : Value → Shared → Prop}
    (hplain : args.any (·.1) = false) (hkw : keywords.any (·.1.isNone) = false)
    (h : wpAny M A (evalArgs (.type T) true args keywords) (fun a s₁ => wpAny M A (call (.type T) a.pos a.kw) Q E s₁) E s) :
    wpAny M A (callWith pos (.type T) [] args keywords) Q E s := by
  unfold callWith
  refine wpAny_bind (wpAny_holding (wpAny_mono h (fun a s₁ h₁ => wpAny_bind (wpAny_standAt ?_)) fun _ _ x => x))
  simp only [hplain, hkw, Bool.or_false]
  refine wpAny_bind (wpAny_pure ?_)
  exact wpAny_bind (wpAny_mono h₁ (fun r s₂ hr => wpAny_bind (wpAny_holding (wpAny_point (wpAny_pure hr)))) fun _ _ x => x)
theorem i_zipS {elts : List Expr} {kk j : Nat} {tpos p kpos cpos : Pos} {l : LEv} (hg : Gl X "zip") (hm : X.mg "zip" = none) (ha : PA X [a, b] (tL X.K l))
    (he : backTo pos (starEach [a, b] X.env) = (false, eval a X.env) :: backTo pos (starEach [b] X.env)) (hpl : (backTo pos (starEach [a, b] X.env)).any (·.1) = false) :
    PI X (.Tuple elts kk tpos) (.Call (.Name "zip" p) [a, b] [⟨some "strict", .Constant (.bool true) j cpos, kpos⟩] pos) (tI X.K (T.iZip true l) true) := by
  refine ⟨fun pins s σ H R I ⟨m, S, ρ, r, rs, q⟩ => ?_⟩
  have h1 : tL X.K l σ H fun vs H1 => ∃ m1 S1 x y v w J, vs = [v, w] ∧ Rel X.K m1 S1 H1 ∧ RD X.K m1 H1 x v ∧ RD X.K m1 H1 y w ∧ zipIt true x y S1 = some J ∧ ∀ J', ItSim X.K J' J.at_ m1 H1 true → R J' H1 := by
    refine tL_on r rs (goodR_bind.mp q) fun ds S1 m1 H1 vs q1 st1 r1 rs1 d1 => ?_
    split at q1
    · rename_i x y
      obtain ⟨v, vr, rfl, dv, w, wr, rfl, dw, rfl⟩ := d1
      split at q1
      · rename_i J hJ
        exact ⟨m1, S1, x, y, v, w, J, rfl, r1, dv, dw, hJ, fun J' sim => q1 m1 H1 J' st1 r1 sim⟩
      · exact q1.elim
    · exact q1.elim
  have hk : PK X [⟨some "strict", .Constant (.bool true) j cpos, kpos⟩] (tCons (tC (.bl true)) tNil) := pk_cons pe_bl pk_nil
  refine wpAny_Call_Name_kw (ld_blt I hg hm PyProof.Rows.boot_zip (callWith_tyK hpl (by rfl) ?_))
  rw [he]
  refine PyProof.Rows.evalArgs_kwB (by rfl) ?_
  rw [← he]
  refine thn (ha.run pos pins s σ H _ I h1) fun us s1 ⟨vs, H1, I1, rv, m1, S1, x, y, v, w, J, ev, r1, dv, dw, hJ, k⟩ => ?_
  refine thn (hk.run pos pins s1 σ H1 (fun zs H2 => zs = [.bl true] ∧ H2 = H1) I1 ⟨rfl, rfl⟩) fun ws s2 ⟨zs, H2, I2, rz, ez, eh⟩ => ?_
  subst ez eh ev
  obtain ⟨u, u', rfl, ru, ru'⟩ := Vals.two rv
  obtain ⟨w1, rfl, hw⟩ := Vals.one rz
  cases hw
  exact zip_go (b := true) rfl I2 r1 dv dw ru ru' hJ k
theorem enum_go {tg : Expr} {elts : List Expr} {kk : Nat} {tpos : Pos} {c : Int} {pins : List (Addr × Obj)} {σ : L2.St} {H : Hp} {s : Shared} {m : List Addr} {S : Store} {x : D} {v : V} {u : Value} {J : It} {R : L2.It → Hp → Prop} (htg : tg = .Tuple elts kk tpos)
    (I : Inv X pins σ H s) (r : Rel X.K m S H) (h : RD X.K m H x v) (ru : RelV v u) (e : enIt c x S = some J)
    (q : ∀ J', ItSim X.K J' J.at_ m H true → R J' H) :
    ∃ (k : Sk) (o : Obj) (Hp : Heap → Prop), Begins u o Hp ∧ Hp s.heap ∧ ∀ h', IsEnum h' (s.heap.objs.size + 1) s.heap.objs.size c .none → h'.get? s.heap.objs.size = some o → (∀ b o, s.heap.get? b = some o → h'.get? b = some o) →
      wpAny (model X.prog X.w) X.A (pyIter (.ref (s.heap.objs.size + 1))) (PIE X pins σ tg R) X.xe { s with heap := h' } := by
  subst htg
  unfold enIt at e
  split at e
  · rename_i l el
    cases e
    obtain ⟨k1, o1, P1, B1, hp1, s1, c1, f1⟩ := src_begin I r h ru el
    refine ⟨k1, o1, P1, B1, hp1, fun h' he g1 hk => wpAny_pyIter_enum he ?_⟩
    have sim : ItSim X.K (It1 X.K k1 c) (fun i S' => match srcL x S' with
      | some l => enAt c l i
      | none => none) m H true := by
      refine ⟨fun m' S' H' i st r' e1 => ?_, fun m' S' H' i d st r' e1 => ?_⟩
      · split at e1
        · rename_i l1 g1
          obtain ⟨xs, q1, z1⟩ := f1 m' S' H' l1 st r' g1
          unfold enAt at e1
          split at e1
          · cases e1
          · split at e1
            · rename_i hc
              exact ⟨xs, q1, by rw [z1.length]; exact hc⟩
            · cases e1
        · cases e1
      · split at e1
        · rename_i l1 g1
          obtain ⟨xs, q1, z1⟩ := f1 m' S' H' l1 st r' g1
          unfold enAt at e1
          split at e1
          · rename_i p a1
            cases e1
            obtain ⟨w1, b1, d1⟩ := z1.get a1
            refine ⟨⟨xs, w1, q1, b1⟩, fun z H2 hy => ?_⟩
            obtain ⟨T, x', rfl, hT, rfl, t1⟩ := hy
            have e3 := t1 xs q1
            rw [b1] at e3; cases e3
            have stn : Step m' H' m' (upd H' T (.tup [.int (c + (i : Int)), w1])) := step_new hT
            refine ⟨stn, r'.new hT, ?_⟩
            simp only [if_true]
            exact .inr ⟨[.int (c + (i : Int)), p], T, [.int (c + (i : Int)), w1], rfl, rfl, .inl (.inl upd_same), ⟨_, _, rfl, rfl, _, _, rfl, d1.step stn, rfl⟩⟩
          · split at e1 <;> cases e1
        · cases e1
    have I2 : Inv X pins σ H { s with heap := h' } := I.kept (t' := s.toks) hk
    have n1 : s.heap.objs.size ∉ k1.cells := fun z => absurd (c1 _ z) (Nat.lt_irrefl _)
    have n2 : s.heap.objs.size + 1 ∉ k1.cells := fun z => absurd (c1 _ z) (Nat.not_lt.mpr (Nat.le_add_right _ _))
    refine ⟨s.heap.objs.size + 1, [s.heap.objs.size + 1, s.heap.objs.size], _, _, H, rfl, I2, turn_enumK (Nat.succ_ne_self _) n2 n1, ⟨⟨.none, by simpa using he⟩, s1 _ _ g1⟩, fun b hb => ?_, q _ sim⟩
    have e' : b = s.heap.objs.size + 1 ∨ b = s.heap.objs.size := by simpa using hb
    have hle : s.heap.objs.size ≤ b := by
      rcases e' with z | z
      · rw [z]; exact Nat.le_add_right _ _
      · rw [z]; exact Nat.le_refl _
    exact I.fpOk hle (I.hok.fresh hle)
  · cases e
theorem i_enum1 {elts : List Expr} {kk : Nat} {tpos p : Pos} {l : LEv} (hg : Gl X "enumerate") (hm : X.mg "enumerate" = none) (ha : PA X [a] (tL X.K l)) (hs : starEach [a] X.env = (false, eval a X.env) :: starEach [] X.env) :
    PI X (.Tuple elts kk tpos) (.Call (.Name "enumerate" p) [a] [] pos) (tI X.K (T.iEnum1 l) true) := by
  refine ⟨fun pins s σ H R I ⟨m, S, ρ, r, rs, q⟩ => ?_⟩
  have h1 : tL X.K l σ H fun vs H1 => ∃ m1 S1 x v J, vs = [v] ∧ Rel X.K m1 S1 H1 ∧ RD X.K m1 H1 x v ∧ enIt 0 x S1 = some J ∧ ∀ J', ItSim X.K J' J.at_ m1 H1 true → R J' H1 := by
    refine tL_on r rs (goodR_bind.mp q) fun ds S1 m1 H1 vs q1 st1 r1 rs1 d1 => ?_
    split at q1
    · rename_i x
      obtain ⟨v, vr, rfl, dv, rfl⟩ := d1
      split at q1
      · rename_i J hJ
        exact ⟨m1, S1, x, v, J, rfl, r1, dv, hJ, fun J' sim => q1 m1 H1 J' st1 r1 sim⟩
      · exact q1.elim
    · exact q1.elim
  refine Call_ (ld_blt I hg hm boot_enumerate (PyProof.Rows.callWith_type1 (thn (ha.run pos pins s σ H _ I h1) fun us s1 ⟨vs, H1, I1, rv, m1, S1, x, v, J, ev, r1, dv, hJ, k⟩ => ?_) hs rfl))
  subst ev
  obtain ⟨u, rfl, ru⟩ := Vals.one rv
  obtain ⟨k1, o, P, B, hp, go⟩ := enum_go (R := R) rfl I1 r1 dv ru hJ k
  exact enum_begins1 B hp fun h' he g1 hsz hk => go h' he g1 hk
theorem i_enum2 {elts : List Expr} {kk : Nat} {tpos p : Pos} {l : LEv} (hg : Gl X "enumerate") (hm : X.mg "enumerate" = none) (ha : PA X [a, b] (tL X.K l)) (hs : starEach [a, b] X.env = (false, eval a X.env) :: starEach [b] X.env) (hpl : (backTo pos (starEach [b] X.env)).any (·.1) = false) :
    PI X (.Tuple elts kk tpos) (.Call (.Name "enumerate" p) [a, b] [] pos) (tI X.K (T.iEnum2 l) true) := by
  refine ⟨fun pins s σ H R I ⟨m, S, ρ, r, rs, q⟩ => ?_⟩
  have h1 : tL X.K l σ H fun vs H1 => ∃ m1 S1 x v c J, vs = [v, .int c] ∧ okR c = true ∧ Rel X.K m1 S1 H1 ∧ RD X.K m1 H1 x v ∧ enIt c x S1 = some J ∧ ∀ J', ItSim X.K J' J.at_ m1 H1 true → R J' H1 := by
    refine tL_on r rs (goodR_bind.mp q) fun ds S1 m1 H1 vs q1 st1 r1 rs1 d1 => ?_
    split at q1
    · rename_i x c
      obtain ⟨v, vr, rfl, dv, w, wr, rfl, rfl, rfl⟩ := d1
      split at q1
      · rename_i hc
        split at q1
        · rename_i J hJ
          exact ⟨m1, S1, x, v, c, J, rfl, hc, r1, dv, hJ, fun J' sim => q1 m1 H1 J' st1 r1 sim⟩
        · exact q1.elim
      · exact q1.elim
    · exact q1.elim
  refine Call_ (ld_blt I hg hm boot_enumerate (PyProof.Rows.callWith_type1 (thn (ha.run pos pins s σ H _ I h1) fun us s1 ⟨vs, H1, I1, rv, m1, S1, x, v, c, J, ev, hc, r1, dv, hJ, k⟩ => ?_) hs hpl))
  subst ev
  obtain ⟨u, u', rfl, ru, ru'⟩ := Vals.two rv
  obtain ⟨t, rfl⟩ := ru'
  obtain ⟨k1, o, P, B, hp, go⟩ := enum_go (R := R) rfl I1 r1 dv ru hJ k
  have := okR_of hc
  exact enum_begins B hp (by omega) (by omega) fun h' he g1 hsz hk => go h' he g1 hk
end
end T

set_option Elab.async false
set_option linter.all false
set_option maxRecDepth 100000
set_option maxHeartbeats 1000000
/-! Builtins and methods. -/
namespace T
open PySem PySem.Spec PyProof.Rows L2
/-! ### rows of one kind -/
def intsD : List D → Option (List Int)
  | [] => some []
  | .int i :: r => (intsD r).map fun l => i :: l
  | _ => none
def blsD : List D → Option (List Bool)
  | [] => some []
  | .bl i :: r => (blsD r).map fun l => i :: l
  | _ => none
def strsD : List D → Option (List (List Nat))
  | [] => some []
  | .str i :: r => (strsD r).map fun l => i :: l
  | _ => none
section
variable {K : PySem.W.Frag} {m : List Addr} {H : Hp}
theorem intsD_vs : ∀ {ds : List D} {vs : List V} {ns : List Int}, RDs K m H ds vs → intsD ds = some ns → vs = ns.map V.int
  | [], _, _, h, e => by cases h; cases e; rfl
  | d :: r, _, ns, h, e => by
    obtain ⟨v, vr, rfl, h2, h3⟩ := h
    cases d <;> first | cases e | skip
    have e' : (intsD r).map (fun l => _ :: l) = some ns := e
    cases z : intsD r with
    | none => rw [z] at e'; cases e'
    | some l =>
      rw [z] at e'; cases e'
      cases h2
      rw [intsD_vs h3 z]; rfl
theorem blsD_vs : ∀ {ds : List D} {vs : List V} {ns : List Bool}, RDs K m H ds vs → blsD ds = some ns → vs = ns.map V.bl
  | [], _, _, h, e => by cases h; cases e; rfl
  | d :: r, _, ns, h, e => by
    obtain ⟨v, vr, rfl, h2, h3⟩ := h
    cases d <;> first | cases e | skip
    have e' : (blsD r).map (fun l => _ :: l) = some ns := e
    cases z : blsD r with
    | none => rw [z] at e'; cases e'
    | some l =>
      rw [z] at e'; cases e'
      cases h2
      rw [blsD_vs h3 z]; rfl
theorem strsD_vs : ∀ {ds : List D} {vs : List V} {ns : List (List Nat)}, RDs K m H ds vs → strsD ds = some ns → vs = (ns.map fun x => (⟨x.toArray⟩ : Str)).map V.str
  | [], _, _, h, e => by cases h; cases e; rfl
  | d :: r, _, ns, h, e => by
    obtain ⟨v, vr, rfl, h2, h3⟩ := h
    cases d <;> first | cases e | skip
    have e' : (strsD r).map (fun l => _ :: l) = some ns := e
    cases z : strsD r with
    | none => rw [z] at e'; cases e'
    | some l =>
      rw [z] at e'; cases e'
      cases h2
      rw [strsD_vs h3 z]; rfl
theorem RDs.ints : ∀ ns : List Int, RDs K m H (ns.map D.int) (ns.map V.int)
  | [] => rfl
  | n :: r => ⟨_, _, rfl, rfl, RDs.ints r⟩
end
/-! ### builtins -/
def fLen : FSem := fun ds S => match ds with
  | [.str x] => if x.length ≤ lineN then .ok (.int (x.length : Int)) S else .err
  | [.tup l] => .ok (.int (l.length : Int)) S
  | [.ref n] => match cellL S[n]? with
    | some l => .ok (.int (l.length : Int)) S
    | none => .err
  | _ => .err
def listD (d : D) (S : Store) : Option (List D) := match d with
  | .tup l => some l
  | .ref n => cellL S[n]?
  | _ => none
def fList : FSem := fun ds S => match ds with
  | [d] => match listD d S with
    | some l => .ok (.ref S.length) (S ++ [.lst l])
    | none => .err
  | _ => .err
def fTuple : FSem := fun ds S => match ds with
  | [d] => match listD d S with
    | some l => .ok (.tup l) S
    | none => .err
  | _ => .err
def fSum : FSem := fun ds S => match ds with
  | [d] => match (listD d S).bind intsD with
    | some ns => .ok (.int ns.sum) S
    | none => .err
  | _ => .err
def fAll : FSem := fun ds S => match ds with
  | [.ref n] => match (cellL S[n]?).bind blsD with
    | some bs => .ok (.bl (bs.all id)) S
    | none => .err
  | _ => .err
def fAny : FSem := fun ds S => match ds with
  | [.ref n] => match (cellL S[n]?).bind blsD with
    | some bs => .ok (.bl (bs.any id)) S
    | none => .err
  | _ => .err
def fInt : FSem := fun ds S => match ds with
  | [.int i] => .ok (.int i) S
  | [.bl b] => .ok (.int (if b then 1 else 0)) S
  | _ => .err
def fAbs : FSem := fun ds S => match ds with
  | [.int i] => .ok (.int (if i < 0 then -i else i)) S
  | _ => .err
def fMin : FSem := fun ds S => match ds with
  | [.int i, .int j] => .ok (.int (if j < i then j else i)) S
  | [.ref n] => match (cellL S[n]?).bind intsD with
    | some (a :: r) => .ok (.int (r.foldl min a)) S
    | _ => .err
  | _ => .err
def fMax : FSem := fun ds S => match ds with
  | [.int i, .int j] => .ok (.int (if j > i then j else i)) S
  | [.ref n] => match (cellL S[n]?).bind intsD with
    | some (a :: r) => .ok (.int (r.foldl max a)) S
    | _ => .err
  | _ => .err
def fSorted : FSem := fun ds S => match ds with
  | [d] => match (listD d S).bind intsD with
    | some ns => .ok (.ref S.length) (S ++ [.lst ((PySem.W.sortI ns).map D.int)])
    | none => .err
  | _ => .err
section
variable {X : Cx}
theorem listD_ok {m : List Addr} {S : Store} {H : Hp} {d : D} {v : V} {l : List D} (r : Rel X.K m S H) (h : RD X.K m H d v) (e : listD d S = some l) : ∃ a vs, v = .ref a ∧ (SqL X.K H a vs ∨ SqT X.K H a vs) ∧ RDs X.K m H l vs := by
  cases d <;> first | cases e | skip
  · obtain ⟨a, vs, rfl, ht, hr⟩ := h
    exact ⟨a, vs, rfl, .inr ht.sq, hr⟩
  · obtain ⟨a, hm, rfl⟩ := h
    obtain ⟨vs, h1, h2⟩ := r.cellL hm e
    exact ⟨a, vs, rfl, .inl h1, h2⟩
theorem c_len : CallR X (.builtin "len") (rB X.K fLen) := by
  intro pins s σ H xs us Q I rx ⟨m, S, ds, r, h, q⟩
  unfold fLen at q
  split at q
  · rename_i x
    obtain ⟨v, vr, rfl, rfl, rfl⟩ := h
    split at q
    · rename_i hz
      exact call_len_str pins s σ H _ us Q I rx ⟨_, rfl, by rw [strLen, ← line_eq]; exact hz, by rw [strLen]; exact Post.now q r rfl⟩
    · exact q.elim
  · rename_i l
    obtain ⟨v, vr, rfl, ⟨a, vs, rfl, ht, hr⟩, rfl⟩ := h
    exact call_len_seq pins s σ H _ us Q I rx ⟨a, vs, rfl, .inr ht.sq, by rw [hr.length]; exact Post.now q r rfl⟩
  · rename_i n
    obtain ⟨v, vr, rfl, ⟨a, hm, rfl⟩, rfl⟩ := h
    split at q
    · rename_i l hl
      obtain ⟨vs, h1, h2⟩ := r.cellL hm hl
      exact call_len_seq pins s σ H _ us Q I rx ⟨a, vs, rfl, .inl h1, by rw [h2.length]; exact Post.now q r rfl⟩
    · exact q.elim
  · exact q.elim
theorem c_list : CallR X (.type "list") (rB X.K fList) := by
  intro pins s σ H xs us Q I rx ⟨m, S, ds, r, h, q⟩
  unfold fList at q
  split at q
  · rename_i d
    obtain ⟨v, vr, rfl, hd, rfl⟩ := h
    split at q
    · rename_i l hl
      obtain ⟨a, vs, rfl, h1, h2⟩ := listD_ok r hd hl
      exact call_list_of pins s σ H _ us Q I rx ⟨a, vs, rfl, h1, fun p hp => q _ _ _ (step_alloc hp) (r.alloc hp h2) (RD.newRef r)⟩
    · exact q.elim
  · exact q.elim
theorem call_tuple_F : CallR X (.type "tuple") (fun xs H Q => ∃ p ys, xs = [.ref p] ∧ ((SqL X.K H p ys ∧ ∀ l o, o.dict = none → H l = none → Q (.ref l) (upd H l (.frz o (.tup ys)))) ∨ (SqT X.K H p ys ∧ Q (.ref p) H))) := by
  intro pins s σ H xs us Q I r ⟨p, ys, ex, h⟩
  subst ex
  obtain ⟨u, rfl, rx⟩ := vals1 r
  cases rx
  rcases h with ⟨hq, q⟩ | ⟨hq, q⟩
  · obtain ⟨its, r', pl, hz⟩ := I.list hq
    have hlen := r'.length
    refine call_tuple_list pl.isList (fun h' kp => ?_) (by simp only [List.size_toArray] <;> omega)
    have I1 : Inv X pins σ H { s with heap := h' } := I.kept (t' := s.toks) kp
    have I2 : Inv X pins σ (upd H h'.objs.size (.frz { cls := .type "tuple", data := .seq its.toArray } (.tup ys))) { s with heap := h'.push { cls := .type "tuple", data := .seq its.toArray } } :=
      I1.laid (t' := s.toks) (fun b o e => Heap.get?_push_of_some _ e) (Nat.le_refl _) (show ObjOk X.prog X.w _ _ _ (.frz _ (.tup ys)) from ⟨Heap.get?_push_size _ rfl, hz, its, r', IsTup.new _ _⟩)
    exact ⟨.ref h'.objs.size, _, I2, rfl, q _ _ rfl (I1.hok.fresh (Nat.le_refl _))⟩
  · obtain ⟨its, r', pl, hz⟩ := I.tuple hq
    exact call_tuple_same pl ⟨.ref p, H, I, rfl, q⟩
theorem c_tuple : CallR X (.type "tuple") (rB X.K fTuple) := by
  intro pins s σ H xs us Q I rx ⟨m, S, ds, r, h, q⟩
  unfold fTuple at q
  split at q
  · rename_i d
    obtain ⟨v, vr, rfl, hd, rfl⟩ := h
    split at q
    · rename_i l hl
      cases d <;> first | cases hl | skip
      · obtain ⟨a, vs, rfl, ht, hr⟩ := hd
        exact call_tuple_F pins s σ H _ us Q I rx ⟨a, vs, rfl, .inr ⟨ht.sq, Post.now q r ⟨a, vs, rfl, ht, hr⟩⟩⟩
      · obtain ⟨a, hm, rfl⟩ := hd
        obtain ⟨vs, h1, h2⟩ := r.cellL hm hl
        exact call_tuple_F pins s σ H _ us Q I rx ⟨a, vs, rfl, .inl ⟨h1, fun p o hd hp => q m _ _ (step_new hp) (r.new hp) (RD.newTup hd hp h2)⟩⟩
    · exact q.elim
  · exact q.elim
theorem sum_tupV (hc : X.calm = true) : CallR X (.builtin "sum") (fun vs H Q => ∃ (a : Addr) (ns : List Int), vs = [V.ref a] ∧ SqT X.K H a (ns.map V.int) ∧ Q (.int ns.sum) H) := by
  intro pins s σ H vs us Q I r ⟨a, ns, ex, hs, q⟩
  subst ex
  obtain ⟨its, rv, hl, _⟩ := I.tuple hs
  rw [Vals.ref1 r]
  have hi := rv.ints
  obtain ⟨xs, e⟩ := hi.allInts.items
  have hn : numsOf (intItems xs).toList = ns := by rw [← e]; exact hi.numsOf
  rw [nums_intItems] at hn
  rw [e] at hl
  refine PySem.W.ktm_sumG (I.ok.hd hc) hl fun h' tk t' hk => ?_
  rw [preSum_eq, List.take_of_length_le (by simp), hn]
  exact ⟨.int _, H, I.kept hk, ⟨_, rfl⟩, q⟩
theorem c_sum (hc : X.calm = true) : CallR X (.builtin "sum") (rB X.K fSum) := by
  intro pins s σ H xs us Q I rx ⟨m, S, ds, r, h, q⟩
  unfold fSum at q
  split at q
  · rename_i d
    obtain ⟨v, vr, rfl, hd, rfl⟩ := h
    split at q
    · rename_i ns hl
      cases z : listD d S with
      | none => rw [z] at hl; cases hl
      | some l =>
        rw [z] at hl
        obtain ⟨a, vs, rfl, h1, h2⟩ := listD_ok r hd z
        have e := intsD_vs h2 hl
        subst e
        rcases h1 with h1 | h1
        · exact cr_sum hc pins s σ H _ us Q I rx ⟨a, ns, rfl, h1, Post.now q r rfl⟩
        · exact sum_tupV hc pins s σ H _ us Q I rx ⟨a, ns, rfl, h1, Post.now q r rfl⟩
    · exact q.elim
  · exact q.elim
theorem c_all (hc : X.calm = true) : CallR X (.builtin "all") (rB X.K fAll) := by
  intro pins s σ H xs us Q I rx ⟨m, S, ds, r, h, q⟩
  unfold fAll at q
  split at q
  · rename_i n
    obtain ⟨v, vr, rfl, ⟨a, hm, rfl⟩, rfl⟩ := h
    split at q
    · rename_i bs hl
      cases z : cellL S[n]? with
      | none => rw [z] at hl; cases hl
      | some l =>
        rw [z] at hl
        obtain ⟨vs, h1, h2⟩ := r.cellL hm z
        have e := blsD_vs h2 hl
        subst e
        exact cr_all hc pins s σ H _ us Q I rx ⟨a, bs, rfl, h1, Post.now q r rfl⟩
    · exact q.elim
  · exact q.elim
theorem c_any (hc : X.calm = true) : CallR X (.builtin "any") (rB X.K fAny) := by
  intro pins s σ H xs us Q I rx ⟨m, S, ds, r, h, q⟩
  unfold fAny at q
  split at q
  · rename_i n
    obtain ⟨v, vr, rfl, ⟨a, hm, rfl⟩, rfl⟩ := h
    split at q
    · rename_i bs hl
      cases z : cellL S[n]? with
      | none => rw [z] at hl; cases hl
      | some l =>
        rw [z] at hl
        obtain ⟨vs, h1, h2⟩ := r.cellL hm z
        have e := blsD_vs h2 hl
        subst e
        exact cr_any hc pins s σ H _ us Q I rx ⟨a, bs, rfl, h1, Post.now q r rfl⟩
    · exact q.elim
  · exact q.elim
theorem c_int : CallR X (.type "int") (rB X.K fInt) := by
  intro pins s σ H xs us Q I rx ⟨m, S, ds, r, h, q⟩
  unfold fInt at q
  split at q
  · obtain ⟨v, vr, rfl, rfl, rfl⟩ := h
    exact call_int1 pins s σ H _ us Q I rx (.inl ⟨_, rfl, Post.now q r rfl⟩)
  · obtain ⟨v, vr, rfl, rfl, rfl⟩ := h
    exact call_int1 pins s σ H _ us Q I rx (.inr ⟨_, rfl, Post.now q r rfl⟩)
  · exact q.elim
theorem c_abs : CallR X (.builtin "abs") (rB X.K fAbs) := by
  intro pins s σ H xs us Q I rx ⟨m, S, ds, r, h, q⟩
  unfold fAbs at q
  split at q
  · obtain ⟨v, vr, rfl, rfl, rfl⟩ := h
    exact call_abs pins s σ H _ us Q I rx ⟨_, rfl, Post.now q r rfl⟩
  · exact q.elim
theorem foldl_min_eq {m : Int} : ∀ {r : List Int} {a : Int}, m ∈ a :: r → (∀ y ∈ a :: r, m ≤ y) → r.foldl min a = m
  | [], a, h1, _ => (List.mem_singleton.mp h1).symm
  | b :: r, a, h1, h2 => by
    refine foldl_min_eq (r := r) (a := min a b) ?_ fun y hy => ?_
    · have ha := h2 a (by simp)
      have hb := h2 b (by simp)
      rcases List.mem_cons.mp h1 with e | h1
      · exact List.mem_cons.mpr (.inl (by omega))
      rcases List.mem_cons.mp h1 with e | h1
      · exact List.mem_cons.mpr (.inl (by omega))
      · exact List.mem_cons_of_mem _ h1
    · rcases List.mem_cons.mp hy with e | hy
      · have ha := h2 a (by simp)
        have hb := h2 b (by simp)
        omega
      · exact h2 y (by simp [hy])
theorem foldl_max_eq {m : Int} : ∀ {r : List Int} {a : Int}, m ∈ a :: r → (∀ y ∈ a :: r, y ≤ m) → r.foldl max a = m
  | [], a, h1, _ => (List.mem_singleton.mp h1).symm
  | b :: r, a, h1, h2 => by
    refine foldl_max_eq (r := r) (a := max a b) ?_ fun y hy => ?_
    · have ha := h2 a (by simp)
      have hb := h2 b (by simp)
      rcases List.mem_cons.mp h1 with e | h1
      · exact List.mem_cons.mpr (.inl (by omega))
      rcases List.mem_cons.mp h1 with e | h1
      · exact List.mem_cons.mpr (.inl (by omega))
      · exact List.mem_cons_of_mem _ h1
    · rcases List.mem_cons.mp hy with e | hy
      · have ha := h2 a (by simp)
        have hb := h2 b (by simp)
        omega
      · exact h2 y (by simp [hy])
theorem c_min (hc : X.calm = true) : CallR X (.builtin "min") (rB X.K fMin) := by
  intro pins s σ H xs us Q I rx ⟨m, S, ds, r, h, q⟩
  unfold fMin at q
  split at q
  · obtain ⟨v, vr, rfl, rfl, w, wr, rfl, rfl, rfl⟩ := h
    exact call_min2 hc pins s σ H _ us Q I rx ⟨_, _, rfl, Post.now q r rfl⟩
  · rename_i n
    obtain ⟨v, vr, rfl, ⟨a, hm, rfl⟩, rfl⟩ := h
    split at q
    · rename_i b bs hl
      cases z : cellL S[n]? with
      | none => rw [z] at hl; cases hl
      | some l =>
        rw [z] at hl
        obtain ⟨vs, h1, h2⟩ := r.cellL hm z
        have e := intsD_vs h2 hl
        subst e
        refine cr_min hc pins s σ H _ us Q I rx ⟨a, b :: bs, rfl, h1, by simp, fun k h3 h4 => ?_⟩
        rw [← foldl_min_eq h3 h4]
        exact Post.now q r rfl
    · exact q.elim
  · exact q.elim
theorem c_max (hc : X.calm = true) : CallR X (.builtin "max") (rB X.K fMax) := by
  intro pins s σ H xs us Q I rx ⟨m, S, ds, r, h, q⟩
  unfold fMax at q
  split at q
  · obtain ⟨v, vr, rfl, rfl, w, wr, rfl, rfl, rfl⟩ := h
    exact call_max2 hc pins s σ H _ us Q I rx ⟨_, _, rfl, Post.now q r rfl⟩
  · rename_i n
    obtain ⟨v, vr, rfl, ⟨a, hm, rfl⟩, rfl⟩ := h
    split at q
    · rename_i b bs hl
      cases z : cellL S[n]? with
      | none => rw [z] at hl; cases hl
      | some l =>
        rw [z] at hl
        obtain ⟨vs, h1, h2⟩ := r.cellL hm z
        have e := intsD_vs h2 hl
        subst e
        refine cr_max hc pins s σ H _ us Q I rx ⟨a, b :: bs, rfl, h1, by simp, fun k h3 h4 => ?_⟩
        rw [← foldl_max_eq h3 h4]
        exact Post.now q r rfl
    · exact q.elim
  · exact q.elim
end
end T

set_option Elab.async false
set_option linter.all false
set_option maxRecDepth 100000
set_option maxHeartbeats 1000000
namespace T
open PySem PySem.Spec PyProof.Rows L2
/-! ### isinstance -/
def tyD (d : D) (S : Store) : Option String := match d with
  | .non => some "NoneType"
  | .bl _ => some "bool"
  | .int _ => some "int"
  | .str _ => some "str"
  | .tup _ => some "tuple"
  | .ref n => (cellL S[n]?).map fun _ => "list"
def isTy (t c : String) : Bool := t == c || (t == "bool" && c == "int")
def tys6 : List String := ["bool", "int", "str", "tuple", "list", "dict"]
def tys7 : List String := ["NoneType", "bool", "int", "str", "tuple", "list"]
theorem kit_tab (K : PySem.W.Frag) : ∀ t ∈ tys7, ∀ c ∈ tys6, PySem.W.kitOne K (.type t) (.type c) = some (isTy t c) := by
  intro t ht c hc
  simp only [tys7, tys6, List.mem_cons, List.mem_nil_iff, or_false] at ht hc
  rcases ht with rfl | rfl | rfl | rfl | rfl | rfl <;> rcases hc with rfl | rfl | rfl | rfl | rfl | rfl <;> kernel_rfl
end T
namespace T
open PySem PySem.Spec PyProof.Rows L2
def eIsi (f : Ev) (cs : List String) : Ev := fun ρ S => (f ρ S).bind fun d S1 => match tyD d S1 with
  | some t => .ok (.bl (cs.any fun c => isTy t c)) S1
  | none => .err
section
variable {X : Cx} {e : Expr} {pos : Pos}
theorem tyD_mem {d : D} {S : Store} {t : String} (h : tyD d S = some t) : t ∈ tys7 := by
  cases d <;> first | (cases h; decide) | skip
  have h' : (cellL S[_]?).map (fun _ => "list") = some t := h
  cases z : cellL S[‹Nat›]? with
  | none => rw [z] at h'; cases h'
  | some l => rw [z] at h'; cases h'; show "list" ∈ tys7; decide
theorem tyD_ok {m : List Addr} {S : Store} {H : Hp} {d : D} {v : V} {t : String} (r : Rel X.K m S H) (h : RD X.K m H d v) (e : tyD d S = some t) : TyX X.K H v (.type t) := by
  cases d with
  | non => cases h; cases e; exact .base .non
  | bl b => cases h; cases e; exact .base (.bl b)
  | int i => cases h; cases e; exact .base (.int i)
  | str x => cases h; cases e; exact .base (.str _)
  | tup l =>
    obtain ⟨a, vs, rfl, ht, hr⟩ := h
    cases e
    rcases ht with ⟨o, h1, _⟩ | ⟨o, its, n, h1, h2, _⟩
    · exact .fTuple h1
    · exact .kTuple h1 h2
  | ref n =>
    obtain ⟨a, hm, rfl⟩ := h
    have e' : (cellL S[n]?).map (fun _ => "list") = some t := e
    cases z : S[n]? with
    | none => rw [z] at e'; cases e'
    | some c =>
      rw [z] at e'
      cases c <;> first | (cases e') | skip
      · obtain ⟨vs, h1, _⟩ := r.at_ n a _ hm z
        exact .base (.lst h1)
      · obtain ⟨vs, o, h1, _⟩ := r.at_ n a _ hm z
        exact .base (.frz h1)
def tyName (x : Str) : Option String := tys6.find? fun s => Str.ofString s == x
theorem tyName_ok {x : Str} {c : String} (h : tyName x = some c) : c ∈ tys6 ∧ bootBuiltins x = some (.type c) ∧ x ≠ "__name__" ∧ (x == ("__debug__" : Str)) = false := by
  have h1 := List.find?_some h
  have h2 := List.mem_of_find?_eq_some h
  have e : x = Str.ofString c := (beq_iff_eq.mp h1).symm
  subst e
  refine ⟨h2, ?_⟩
  simp only [tys6, List.mem_cons, List.mem_nil_iff, or_false] at h2
  rcases h2 with rfl | rfl | rfl | rfl | rfl | rfl <;> exact ⟨by first | rfl | kernel_rfl | decide +kernel, by decide +kernel, by decide +kernel⟩
theorem s_isi {x : Str} {p pc : Pos} {c : String} {f : Ev} (hx : tyName x = some c) (hg : Gl X "isinstance") (hm : X.mg "isinstance" = none) (hgc : Gl X x) (hmc : X.mg x = none) (he : PE X e (tE X.K f))
    (hs : starEach (e :: [.Name x pc]) X.env = (false, eval e X.env) :: starEach [.Name x pc] X.env) (hs2 : starEach [.Name x pc] X.env = (false, eval (.Name x pc) X.env) :: starEach [] X.env) (hpl : (backTo pos (starEach [.Name x pc] X.env)).any (·.1) = false) :
    PE X (.Call (.Name "isinstance" p) [e, .Name x pc] [] pos) (tE X.K (eIsi f [c])) := by
  obtain ⟨h1, h2, h3, h4⟩ := tyName_ok hx
  refine L2.PE.weak (pe_callB call_isi hg hm (by first | rfl | kernel_rfl) (pa_cons he (pa_cons (pe_bltn (v := .ty c) hgc hmc h2 rfl h3 h4) pa_nil hs2) hs) (by decide +kernel) (by decide +kernel) hs hpl) fun σ H Q ⟨m, S, ρ, r, rs, q⟩ => ?_
  refine tE_on r rs (goodR_bind.mp q) fun d S1 m1 H1 v q1 st1 r1 rs1 d1 => ?_
  split at q1
  · rename_i t ht
    refine ⟨v, .ty c, .type t, .type c, isTy t c, rfl, .ty c, tyD_ok r1 d1 ht, kit_tab X.K t (tyD_mem ht) c h1, ?_⟩
    have q2 := q1 m1 H1 (.bl (isTy t c)) st1 r1
    simp only [List.any_cons, List.any_nil, Bool.or_false] at q2
    exact q2 rfl
  · exact q1.elim
theorem s_isi2 {x y : Str} {p pc pc2 pt : Pos} {k : Nat} {c c2 : String} {f : Ev} (hx : tyName x = some c) (hy : tyName y = some c2) (hg : Gl X "isinstance") (hm : X.mg "isinstance" = none) (hgc : Gl X x) (hmc : X.mg x = none) (hgc2 : Gl X y) (hmc2 : X.mg y = none) (he : PE X e (tE X.K f))
    (hs : starEach (e :: [.Tuple [.Name x pc, .Name y pc2] k pt]) X.env = (false, eval e X.env) :: starEach [.Tuple [.Name x pc, .Name y pc2] k pt] X.env) (hs2 : starEach [.Tuple [.Name x pc, .Name y pc2] k pt] X.env = (false, eval (.Tuple [.Name x pc, .Name y pc2] k pt) X.env) :: starEach [] X.env) (hpl : (backTo pos (starEach [.Tuple [.Name x pc, .Name y pc2] k pt] X.env)).any (·.1) = false)
    (hs3 : starEach [.Name x pc, .Name y pc2] X.env = (false, eval (.Name x pc) X.env) :: starEach [.Name y pc2] X.env) (hs4 : starEach [.Name y pc2] X.env = (false, eval (.Name y pc2) X.env) :: starEach [] X.env) :
    PE X (.Call (.Name "isinstance" p) [e, .Tuple [.Name x pc, .Name y pc2] k pt] [] pos) (tE X.K (eIsi f [c, c2])) := by
  obtain ⟨h1, h2, h3, h4⟩ := tyName_ok hx
  obtain ⟨h1', h2', h3', h4'⟩ := tyName_ok hy
  have hT := pe_tup (x1 := k) (pos := pt) (pa_cons (pe_bltn (pos := pc) (v := .ty c) hgc hmc h2 rfl h3 h4) (pa_cons (pe_bltn (pos := pc2) (v := .ty c2) hgc2 hmc2 h2' rfl h3' h4') pa_nil hs4) hs3)
  refine L2.PE.weak (pe_callB call_isiT hg hm (by first | rfl | kernel_rfl) (pa_cons he (pa_cons hT pa_nil hs2) hs) (by decide +kernel) (by decide +kernel) hs hpl) fun σ H Q ⟨m, S, ρ, r, rs, q⟩ => ?_
  refine tE_on r rs (goodR_bind.mp q) fun d S1 m1 H1 v q1 st1 r1 rs1 d1 => ?_
  split at q1
  · rename_i t ht
    refine ⟨by show 2 ≤ sizeLine; decide, fun tp hp => ?_⟩
    have st2 : Step m1 H1 m1 (upd H1 tp (.tup [.ty c, .ty c2])) := step_new hp
    refine ⟨v, tp, [.ty c, .ty c2], .type t, [.type c, .type c2], isTy t c || isTy t c2, rfl, upd_same, .cons (.ty c) (.cons (.ty c2) .nil), tyD_ok (r1.new hp) (d1.step st2) ht, ?_, ?_⟩
    · show (match PySem.W.kitOne X.K (.type t) (.type c) with | some true => some true | some false => PySem.W.kitAny X.K (.type t) [.type c2] | none => none) = _
      rw [kit_tab X.K t (tyD_mem ht) c h1]
      cases isTy t c with
      | true => rfl
      | false =>
        show (match PySem.W.kitOne X.K (.type t) (.type c2) with | some true => some true | some false => PySem.W.kitAny X.K (.type t) [] | none => none) = _
        rw [kit_tab X.K t (tyD_mem ht) c2 h1']
        cases isTy t c2 <;> rfl
    · have q2 := q1 m1 _ (.bl (isTy t c || isTy t c2)) (st1.trans st2) (r1.new hp)
      simp only [List.any_cons, List.any_nil, Bool.or_false] at q2
      exact q2 rfl
  · exact q1.elim
end
end T

set_option Elab.async false
set_option linter.all false
set_option maxRecDepth 100000
set_option maxHeartbeats 1000000
/-! Methods; sorted; list(range); stores. -/
namespace SrtO
open PySem PyProof.Rows Srt
section
variable {prog : Program} {w : World} {A : Around} {E : Value → Shared → Prop} {s : Shared}
theorem collect_tupleX {l : Addr} {vs : List Value} {Q : List Value → Shared → Prop} (hl : s.heap.IsTuple l vs.toArray)
    (h : Q vs { s with heap := (s.heap.push (seqObj "list" #[] 0)).update s.heap.objs.size (Obj.mapSeq (· ++ vs.toArray)) }) (hsz : vs.length ≤ sizeLine := by size_fits) :
    wpAny (model prog w) A (collect (.ref l)) Q E s := by
  obtain ⟨o, ho, hc, n, hd⟩ := id hl
  unfold collect
  refine wpAny_bind (wpAny_runValue (codeAny_builtin entry_proto_collect' ?_))
  show wpAny _ _ (do again (.builtin "list.__iadd__" ⟨[← newList [], .ref l], []⟩)) _ _ s
  refine wpAny_bind (wpAny_newList (wpAny_pure ⟨Code.quiet_builtin _ (by decide +kernel), codeAny_builtin entry_list_iadd' ?_⟩))
  show wpAny _ _ (Builtin.List.listExtendWith (.ref s.heap.objs.size) (.ref l) (.ref s.heap.objs.size)) _ _ { s with heap := s.heap.push (seqObj "list" #[] 0) }
  unfold Builtin.List.listExtendWith
  have ho' : (s.heap.push (seqObj "list" #[] 0)).get? l = some o := Heap.get?_push_of_some _ ho
  refine wpAny_bind (wpAny_typeOf (T := "tuple") ⟨o, ho', hc⟩ ?_)
  have ht : (Value.type "tuple" == Value.type "tuple") = true := by rfl
  rw [if_pos (by rw [ht]; simp)]
  refine wpAny_bind (listItems_at ho' hd ?_)
  refine wpAny_bind (listItems_at (xs := #[]) (n := 0) (Heap.get?_push_size _ rfl) rfl ?_)
  rw [if_neg (by simp)]
  refine wpAny_bind (listUpdate_at (xs := #[]) (n := 0) (Heap.get?_push_size _ rfl) rfl ?_ (Nat.zero_le _) (by show (#[] ++ vs.toArray).size ≤ sizeLine + 1; simp only [Array.size_append, List.size_toArray, List.length_nil]; omega))
  refine wpAny_pure ?_
  show wpAny (model prog w) A (do
      let o ← load s.heap.objs.size
      match o.data with
      | .seq xs _ => pure xs.toList
      | _ => unsupported "internal:collect") Q E { s with heap := (s.heap.push (seqObj "list" #[] 0)).update s.heap.objs.size (Obj.mapSeq (· ++ vs.toArray)) }
  refine wpAny_bind (wpAny_load (get?_update_seq (Heap.get?_push_size _ rfl) _) ?_)
  show wpAny _ _ (pure ((#[] : Array Value) ++ vs.toArray).toList) Q E _
  rw [show ((#[] : Array Value) ++ vs.toArray).toList = vs by simp]
  exact wpAny_pure h
theorem sorted_ordT {l : Addr} {vs : List Value} {ltv : Value → Value → Bool} {Q : Value → Shared → Prop} (O : Swo ltv) (hl : s.heap.IsTuple l vs.toArray) (hz : vs.length ≤ sizeLine)
    (hS : 2 ≤ vs.length → ∀ (h₁ : Heap) (a : Addr), h₁.get? a = some (seqObj "list" vs.toArray 0) → (∀ b o, s.heap.get? b = some o → b ≠ a ∧ h₁.get? b = some o) → SortableO prog w A.in1.in1 { s with heap := h₁ } a vs ltv)
    (h : ∀ out : List Value, Srtd ltv out → Stb ltv out vs → Q (.ref (s.heap.objs.size + 1)) { s with heap := sortedAll s.heap vs out.toArray }) :
    wpAny (model prog w) A (call (.builtin "sorted") [.ref l]) Q E s := by
  refine Calls.call_function_entry kind_sorted plain_sorted entry_sorted (args_sorted1 _) ?_
  unfold Builtin.«sorted»
  refine wpAny_bind (m := checkCount "sorted" 1 1 _) (wpAny_pure ?_)
  refine wpAny_bind (collect_tupleX hl ?_ hz)
  refine wpAny_bind (wpAny_newList ?_ hz)
  have hsz : ((s.heap.push (seqObj "list" #[] 0)).update s.heap.objs.size (Obj.mapSeq (· ++ vs.toArray))).objs.size = s.heap.objs.size + 1 := by
    rw [Heap.size_update, size_push']
  have hoL : (((s.heap.push (seqObj "list" #[] 0)).update s.heap.objs.size (Obj.mapSeq (· ++ vs.toArray))).push (seqObj "list" vs.toArray 0)).get? (s.heap.objs.size + 1) = some (seqObj "list" vs.toArray 0) := by
    rw [← hsz]; exact Heap.get?_push_size _ rfl
  have keep : ∀ b o, s.heap.get? b = some o → b ≠ s.heap.objs.size + 1 ∧ (((s.heap.push (seqObj "list" #[] 0)).update s.heap.objs.size (Obj.mapSeq (· ++ vs.toArray))).push (seqObj "list" vs.toArray 0)).get? b = some o := fun b o q => by
    have hlt : b < s.heap.objs.size := Heap.lt_size q
    refine ⟨Nat.ne_of_lt (Nat.lt_succ_of_lt hlt), Heap.get?_push_of_some _ ?_⟩
    rw [Heap.get?_update_ne _ _ _ _ (Nat.ne_of_lt hlt)]
    exact Heap.get?_push_of_some _ q
  show wpAny _ _ _ _ _ { s with heap := ((s.heap.push (seqObj "list" #[] 0)).update s.heap.objs.size (Obj.mapSeq (· ++ vs.toArray))).push (seqObj "list" vs.toArray 0) }
  rw [hsz]
  refine wpAny_bind (wpAny_holding (wpAny_call_entry slot_list_sort ⟨_, hoL, rfl⟩ entry_list_sort (list_sort_ord O hoL hz (fun h2 => hS h2 _ _ hoL keep) fun out hs hb => ⟨_, rfl, ?_⟩) (args_list_sort _)))
  exact wpAny_pure ⟨_, rfl, h out hs hb⟩
end
end SrtO
namespace T
open PySem PySem.Spec PyProof.Rows L2
section
variable {X : Cx}
theorem sortedT_v : CallR X (.builtin "sorted") (fun vs H Q => ∃ (a : Addr) (ns : List Int), vs = [V.ref a] ∧ SqT X.K H a (ns.map V.int) ∧
  ∀ (ns' : List Int) (p : Addr), ns'.Perm ns → ns'.Pairwise (· ≤ ·) → H p = none → Q (.ref p) (upd H p (.lst (ns'.map V.int)))) := by
  intro pins s σ H vs us Q I r ⟨a, ns, ex, hs, q⟩
  subst ex
  obtain ⟨its, rv, hl, hz⟩ := I.tuple hs
  rw [Vals.ref1 r]
  have hi := rv.ints
  refine SrtO.sorted_ordT SrtO.swo_int hl (by rw [← rv.length]; exact hz) (fun h2 h₁ a' _ _ => SrtO.ints_sortable hi h2) fun out h1 h2 => ?_
  obtain ⟨k1, k2, k3⟩ := SrtO.ints_out hi h1 h2
  obtain ⟨ep, he'⟩ := PyProof.Rows.sortedAll_at s.heap its out.toArray
  have hlen : ((out.map SrtO.iv).map V.int).length ≤ sizeLine := by
    rw [List.length_map, k2.length_eq]
    rw [List.length_map] at hz
    exact hz
  exact ⟨.ref _, upd H (s.heap.objs.size + 1) (.lst ((out.map SrtO.iv).map V.int)), I.laid (t' := s.toks) (fun _ _ => PyProof.Rows.sortedAll_old) (Nat.le_succ _) ⟨hlen, out, ep, vals_of_ints k1, he'⟩, rfl, q _ _ k2 k3 (I.hok.fresh (Nat.le_succ _))⟩
theorem c_sorted : CallR X (.builtin "sorted") (rB X.K fSorted) := by
  intro pins s σ H xs us Q I rx ⟨m, S, ds, r, h, q⟩
  unfold fSorted at q
  split at q
  · rename_i d
    obtain ⟨v, vr, rfl, hd, rfl⟩ := h
    split at q
    · rename_i ns hl
      cases z : listD d S with
      | none => rw [z] at hl; cases hl
      | some l =>
        rw [z] at hl
        obtain ⟨a, vs, rfl, h1, h2⟩ := listD_ok r hd z
        have e := intsD_vs h2 hl
        subst e
        have fin : ∀ (ns' : List Int) (p : Addr), ns'.Perm ns → ns'.Pairwise (· ≤ ·) → H p = none → Q (.ref p) (upd H p (.lst (ns'.map V.int))) := fun ns' p hp hs hn => by
          rw [PySem.W.eq_sortI hp hs]
          exact q _ _ _ (step_alloc hn) (r.alloc hn (RDs.ints _)) (RD.newRef r)
        rcases h1 with h1 | h1
        · exact cr_sortedI pins s σ H _ us Q I rx ⟨a, ns, rfl, h1, fin⟩
        · exact sortedT_v pins s σ H _ us Q I rx ⟨a, ns, rfl, h1, fin⟩
    · exact q.elim
  · exact q.elim
/-! ### list(range(..)) -/
def rngD (lo hi : Int) : List D := (List.range (hi - lo).toNat).map fun i => .int (lo + (i : Nat))
def fRng : FSem := fun ds S => match ds with
  | [.int j] => if okR j = true ∧ j.toNat ≤ lineN then .ok (.ref S.length) (S ++ [.lst (rngD 0 j)]) else .err
  | [.int i, .int j] => if okR i = true ∧ okR j = true ∧ (j - i).toNat ≤ lineN then .ok (.ref S.length) (S ++ [.lst (rngD i j)]) else .err
  | _ => .err
theorem rngD_RD {m : List Addr} {H : Hp} {a b : Int} : RDs X.K m H (rngD a b) (rgV a b) := by
  unfold rngD rgV
  induction (List.range (b - a).toNat) with
  | nil => rfl
  | cons x l ih => exact ⟨_, _, rfl, rfl, ih⟩
theorem s_listRg1 {a : Expr} {p p2 pos pos2 : Pos} {f : Ev} (hc : X.calm = true) (hg : Gl X "list") (hm : X.mg "list" = none) (hg2 : Gl X "range") (hm2 : X.mg "range" = none) (ha : PE X a (tE X.K f)) (na : starEach [a] X.env = (false, eval a X.env) :: starEach [] X.env)
    (na2 : starEach [.Call (.Name "range" p2) [a] [] pos2] X.env = (false, eval (.Call (.Name "range" p2) [a] [] pos2) X.env) :: starEach [] X.env) :
    PE X (.Call (.Name "list" p) [.Call (.Name "range" p2) [a] [] pos2] [] pos) (tE X.K (eB fRng (lCons f lNil))) := by
  refine L2.PE.weak (pe_listRg hc hg hm (prg_1 hg2 hm2 ha na) na2) fun σ H Q ⟨m, S, ρ, r, rs, q⟩ => ?_
  refine tE_on r rs (goodR_bind.mp (goodR_bind.mp q)) fun d S1 m1 H1 v q1 st1 r1 rs1 d1 => ?_
  replace q1 : goodR (fRng [d] S1) (Post X.K m H Q) := q1
  unfold fRng at q1
  split at q1
  · rename_i j e
    cases e
    split at q1
    · rename_i ok
      cases d1
      have := okR_of ok.1
      have hl := ok.2
      refine ⟨j, rfl, ⟨by omega, by omega, by omega, by omega, ?_⟩, fun p hp => q1 _ _ _ (st1.trans (step_alloc hp)) (r1.alloc hp rngD_RD) (RD.newRef r1)⟩
      have : lineN = 2 ^ 24 := rfl
      rw [Int.sub_zero]
      omega
    · exact q1.elim
  · rename_i e; cases e
  · exact q1.elim
theorem s_listRg2 {a b : Expr} {p p2 pos pos2 : Pos} {f g : Ev} (hc : X.calm = true) (hg : Gl X "list") (hm : X.mg "list" = none) (hg2 : Gl X "range") (hm2 : X.mg "range" = none) (ha : PE X a (tE X.K f)) (hb : PE X b (tE X.K g)) (na : starEach [a, b] X.env = (false, eval a X.env) :: starEach [b] X.env)
    (nb : starEach [b] X.env = (false, eval b X.env) :: starEach [] X.env) (hp : (backTo pos2 (starEach [b] X.env)).any (·.1) = false)
    (na2 : starEach [.Call (.Name "range" p2) [a, b] [] pos2] X.env = (false, eval (.Call (.Name "range" p2) [a, b] [] pos2) X.env) :: starEach [] X.env) :
    PE X (.Call (.Name "list" p) [.Call (.Name "range" p2) [a, b] [] pos2] [] pos) (tE X.K (eB fRng (lCons f (lCons g lNil)))) := by
  refine L2.PE.weak (pe_listRg hc hg hm (prg_2 hg2 hm2 ha hb na nb hp) na2) fun σ H Q ⟨m, S, ρ, r, rs, q⟩ => ?_
  refine tE_on r rs (goodR_bind.mp (goodR_bind.mp q)) fun d S1 m1 H1 v q1 st1 r1 rs1 d1 => ?_
  refine tE_on r1 rs1 (goodR_bind.mp (goodR_bind.mp q1)) fun d' S2 m2 H2 v' q2 st2 r2 rs2 d2 => ?_
  replace q2 : goodR (fRng [d, d'] S2) (Post X.K m H Q) := q2
  unfold fRng at q2
  split at q2
  · rename_i e; cases e
  · rename_i i j e
    cases e
    split at q2
    · rename_i ok
      cases d1
      cases d2
      have := okR_of ok.1
      have := okR_of ok.2.1
      have hl := ok.2.2
      refine ⟨i, j, rfl, rfl, ⟨by omega, by omega, by omega, by omega, ?_⟩, fun p hp => q2 _ _ _ ((st1.trans st2).trans (step_alloc hp)) (r2.alloc hp rngD_RD) (RD.newRef r2)⟩
      have : lineN = 2 ^ 24 := rfl
      omega
    · exact q2.elim
  · exact q2.elim
/-! ### methods -/
def kindD (d : D) (S : Store) : String := match d with
  | .str _ => "str"
  | .tup _ => "tuple"
  | .ref n => match S[n]? with
    | some (.lst _) => "list"
    | some (.fz _) => "list"
    | _ => ""
  | _ => ""
abbrev MSem := D → List D → Store → R D
def eMt (F : String → Option MSem) (o : Ev) (l : LEv) : Ev := fun ρ S => (o ρ S).bind fun x S1 => match F (kindD x S1) with
  | some g => (l ρ S1).bind fun xs S2 => g x xs S2
  | none => .err
/-- the receiver's type, tuples without a dict -/
theorem kind_is {pins : List (Addr × Obj)} {σ : L2.St} {H : Hp} {s : Shared} {m : List Addr} {S : Store} {d : D} {x : V} {v : Value} {T : String} (I : Inv X pins σ H s) (r : Rel X.K m S H) (h : RD X.K m H d x) (rv : RelV x v) (e : kindD d S = T) (hT : T ≠ "") :
    s.TypeIs v T ∧ ∀ a, v = .ref a → ∃ ob, s.heap.get? a = some ob ∧ ob.dict = none := by
  cases d with
  | str z =>
    cases h
    obtain ⟨t, rfl⟩ := rv
    cases e
    exact ⟨typeIs_str s _ t, fun _ e => nomatch e⟩
  | tup l =>
    obtain ⟨p, vs, rfl, ht, hr⟩ := h
    cases rv
    cases e
    rcases ht with ⟨o, h1, h2⟩ | ⟨o, its, n, h1, h2, h3, _⟩
    · obtain ⟨ho, _, its, _, o2, h3, h4, _⟩ := (show ObjOk X.prog X.w H s.heap p (.frz o (.tup vs)) from I.hok p _ h1)
      refine ⟨⟨o2, h3, h4⟩, fun a e => ?_⟩
      cases e
      exact ⟨o, ho, h2⟩
    · refine ⟨⟨o, I.kIn p o h1, h2⟩, fun a e => ?_⟩
      cases e
      exact ⟨o, I.kIn _ o h1, h3⟩
  | ref n =>
    obtain ⟨p, hm, rfl⟩ := h
    cases rv
    have e' : (match S[n]? with
      | some (.lst _) => "list"
      | some (.fz _) => "list"
      | _ => "") = T := e
    have fin : ∀ vs, SqL X.K H p vs → s.TypeIs (.ref p) "list" ∧ ∀ a, Value.ref p = .ref a → ∃ ob, s.heap.get? a = some ob ∧ ob.dict = none := fun vs hq => by
      obtain ⟨its, _, pl, _⟩ := I.list hq
      refine ⟨pl.isList.typeIs, fun a e => ?_⟩
      cases e
      obtain ⟨o, n, e, c, hd, _⟩ := pl
      exact ⟨o, e, hd⟩
    split at e'
    · rename_i l z
      subst e'
      obtain ⟨vs, h1, _⟩ := r.at_ n p _ hm z
      exact fin vs (SqL.of h1)
    · rename_i l z
      subst e'
      obtain ⟨vs, o, h1, _⟩ := r.at_ n p _ hm z
      exact fin vs (.inl (.inr ⟨o, h1⟩))
    · exact absurd e'.symm hT
  | non => exact absurd e.symm hT
  | bl _ => exact absurd e.symm hT
  | int _ => exact absurd e.symm hT
structure MdOk (X : Cx) (name : Str) (T : String) (g : MSem) : Prop where
  ex : T ≠ "" ∧ ∃ id r, PlainAttrs T ∧ Slot T name id ∧ typeOf (.builtin id) = pure (.type "method_descriptor") ∧ MtR X id r ∧
    ∀ m S H d x ds xs Q, Rel X.K m S H → RD X.K m H d x → RDs X.K m H ds xs → goodR (g d ds S) (Post X.K m H Q) → r x xs H Q
theorem s_meth {o e : Expr} {es : List Expr} {name : Str} {apos cpos : Pos} {F : String → Option MSem} {fo : Ev} {l : LEv} (hF : ∀ T g, F T = some g → MdOk X name T g) (ho : PE X o (tE X.K fo)) (ha : PA X (e :: es) (tL X.K l))
    (hbase : attributeBase o name X.env (eval o X.env) = eval o X.env)
    (hfew : ((backTo cpos (starEach (e :: es) X.env)).all (fun x => !x.1) && (backToKw cpos (keywordEach [] X.env)).all (fun x => x.1.isSome)
      && decide ((e :: es).length + ([] : List Keyword).length + (if ([] : List Keyword).isEmpty then 0 else 1) < 30)) = true)
    (hline : (apos.endLine == cpos.line) = true) (hs : starEach (e :: es) X.env = (false, eval e X.env) :: starEach es X.env) (hplain : (backTo cpos (starEach es X.env)).any (·.1) = false) :
    PE X (.Call (.Attribute o name apos) (e :: es) [] cpos) (tE X.K (eMt F fo l)) := by
  refine ⟨fun pins s σ H Q I ⟨m, S, ρ, r, rs, q⟩ => ?_⟩
  have h1 : tE X.K fo σ H fun x H1 => ∃ m1 S1 d g, Step m H m1 H1 ∧ Rel X.K m1 S1 H1 ∧ RS X.K m1 H1 ρ σ ∧ RD X.K m1 H1 d x ∧ F (kindD d S1) = some g ∧ goodR (l ρ S1) fun xs S2 => goodR (g d xs S2) (Post X.K m1 H1 Q) := by
    refine tE_on r rs (goodR_bind.mp q) fun d S1 m1 H1 v q1 st1 r1 rs1 d1 => ?_
    split at q1
    · rename_i g hg
      exact ⟨m1, S1, d, g, st1, r1, rs1, d1, hg, (goodR_bind.mp q1).mono fun xs S2 p => p.mono fun y S3 p2 => Post.step st1 p2⟩
    · exact q1.elim
  refine wpAny_Call_method_late hbase hfew hline rfl (thn (ho.run pins s σ H _ I h1) fun v s1 ⟨x, H1, I1, rv, m1, S1, d, g, st1, r1, rs1, d1, hg, q1⟩ => ?_)
  obtain ⟨hT, id, rr, pa, slot, hty, hm, hr⟩ := (hF _ g hg).ex
  obtain ⟨k1, k2⟩ := kind_is I1 r1 d1 rv rfl hT
  refine ⟨_, id, pa, slot, hty, k1, k2, ?_⟩
  have q2 : tL X.K l σ H1 fun xs H2 => rr x xs H2 Q := tL_on r1 rs1 q1 fun ds S2 m2 H2 vs p st2 r2 rs2 d2 => hr m2 S2 H2 d x ds vs Q r2 (d1.step st2) d2 (p.mono fun y S3 p2 => Post.step st2 p2)
  have hA := ha.run cpos pins s1 σ H1 _ I1 q2
  rw [hs] at hA ⊢
  refine Calls.callWith_builtin (by show (false || (backTo cpos (starEach es X.env)).any (·.1)) = false; rw [hplain] <;> rfl) (Calls.evalArgs_plain ?_)
  exact thn hA fun us s2 ⟨vs, H2, I2, r2, q2⟩ => hm pins s2 σ H2 x vs v us Q I2 rv r2 q2
theorem s_meth0 {o : Expr} {name : Str} {apos cpos : Pos} {F : String → Option MSem} {fo : Ev} (hF : ∀ T g, F T = some g → MdOk X name T g) (ho : PE X o (tE X.K fo))
    (hbase : attributeBase o name X.env (eval o X.env) = eval o X.env) (hline : (apos.endLine == cpos.line) = true) : PE X (.Call (.Attribute o name apos) [] [] cpos) (tE X.K (eMt F fo lNil)) := by
  refine ⟨fun pins s σ H Q I ⟨m, S, ρ, r, rs, q⟩ => ?_⟩
  have h1 : tE X.K fo σ H fun x H1 => ∃ m1 S1 d g, Step m H m1 H1 ∧ Rel X.K m1 S1 H1 ∧ RS X.K m1 H1 ρ σ ∧ RD X.K m1 H1 d x ∧ F (kindD d S1) = some g ∧ goodR (g d [] S1) (Post X.K m1 H1 Q) := by
    refine tE_on r rs (goodR_bind.mp q) fun d S1 m1 H1 v q1 st1 r1 rs1 d1 => ?_
    split at q1
    · rename_i g hg
      have q2 : goodR (g d [] S1) (Post X.K m H Q) := q1
      exact ⟨m1, S1, d, g, st1, r1, rs1, d1, hg, q2.mono fun y S3 p2 => Post.step st1 p2⟩
    · exact q1.elim
  refine wpAny_Call_method0_late hbase hline (thn (ho.run pins s σ H _ I h1) fun v s1 ⟨x, H1, I1, rv, m1, S1, d, g, st1, r1, rs1, d1, hg, q1⟩ => ?_)
  obtain ⟨hT, id, rr, pa, slot, hty, hm, hr⟩ := (hF _ g hg).ex
  obtain ⟨k1, k2⟩ := kind_is I1 r1 d1 rv rfl hT
  exact ⟨_, id, pa, slot, hty, k1, k2, Calls.callWith_builtin rfl (PySem.evalArgs_none (hm pins s1 σ H1 x [] v [] Q I1 rv .nil (hr m1 S1 H1 d x [] [] Q r1 d1 rfl q1)))⟩
end
end T

set_option Elab.async false
set_option linter.all false
set_option maxRecDepth 100000
set_option maxHeartbeats 1000000
/-! The methods' table; stores. -/
namespace T
open PySem PySem.Spec PyProof.Rows L2
def mAppend : MSem := fun d xs S => match d, xs with
  | .ref n, [y] => match S[n]? with
    | some (.lst l) => if l.length < lineN then .ok .non (S.set n (.lst (l ++ [y]))) else .err
    | _ => .err
  | _, _ => .err
def mExtend : MSem := fun d xs S => match d, xs with
  | .ref n, [.ref k] => match S[n]?, S[k]? with
    | some (.lst l), some (.lst l') => if l.length + l'.length ≤ lineN then .ok .non (S.set n (.lst (l ++ l'))) else .err
    | _, _ => .err
  | _, _ => .err
def mPop : MSem := fun d xs S => match d, xs with
  | .ref n, [] => match S[n]? with
    | some (.lst l) => match l[l.length - 1]? with
      | some y => .ok y (S.set n (.lst l.dropLast))
      | none => .err
    | _ => .err
  | .ref n, [.int i] => match S[n]? with
    | some (.lst l) => match ixN l.length i with
      | some k => match l[k]? with
        | some y => if -9223372036854775808 ≤ i ∧ i < 9223372036854775808 then .ok y (S.set n (.lst (l.eraseIdx k))) else .err
        | none => .err
      | none => .err
    | _ => .err
  | _, _ => .err
def mInsert : MSem := fun d xs S => match d, xs with
  | .ref n, [.int i, y] => match S[n]? with
    | some (.lst l) => if l.length < lineN ∧ 0 ≤ i ∧ i < 9223372036854775808 then .ok .non (S.set n (.lst (l.take i.toNat ++ [y] ++ l.drop i.toNat))) else .err
    | _ => .err
  | _, _ => .err
/-- text.count(one sign) -/
def mCountS : MSem := fun d xs S => match d, xs with
  | .str x, [.str [c]] => .ok (.int (x.count c : Nat)) S
  | _, _ => .err
def mCountL : MSem := fun d xs S => match d, xs with
  | .ref n, [.int k] => match (cellL S[n]?).bind intsD with
    | some ns => .ok (.int (ns.count k : Nat)) S
    | none => .err
  | _, _ => .err
def mJoin : MSem := fun d xs S => match d, xs with
  | .str a, [d] => match (listD d S).bind strsD with
    | some l => if (l.map (·.length)).sum + l.length * a.length ≤ 16777216 then .ok (.str (TL.joinL a l)) S else .err
    | none => .err
  | _, _ => .err
theorem RDs.dropLast {K : PySem.W.Frag} {m : List Addr} {H : Hp} {ds : List D} {vs : List V} (h : RDs K m H ds vs) : RDs K m H ds.dropLast vs.dropLast := by
  rw [List.dropLast_eq_take, List.dropLast_eq_take, h.length]
  exact h.take _
section
variable {X : Cx}
theorem md_append : MdOk X "append" "list" mAppend := ⟨by decide, _, _, PySem.F.plainAttrs_list, PySem.F.slot_list_append, PySem.F.type_list_append, mt_append, fun m S H d x ds xs Q r h hs q => by
  unfold mAppend at q
  split at q
  · rename_i n y
    obtain ⟨a, hm, rfl⟩ := h
    obtain ⟨v, vr, rfl, hv, rfl⟩ := hs
    split at q
    · rename_i l z
      obtain ⟨vs, h1, h2⟩ := r.lst hm z
      split at q
      · rename_i hz
        exact ⟨a, vs, v, rfl, rfl, h1, by rw [h2.length, ← line_eq]; exact hz, q _ _ _ (r.step_write hm z) (r.write hm z (h2.append (RDs.one hv))) rfl⟩
      · exact q.elim
    · exact q.elim
  · exact q.elim⟩
theorem md_extend : MdOk X "extend" "list" mExtend := ⟨by decide, _, _, PySem.F.plainAttrs_list, PySem.F.slot_list_extend, PySem.F.type_list_extend, mt_extend, fun m S H d x ds xs Q r h hs q => by
  unfold mExtend at q
  split at q
  · rename_i n k
    obtain ⟨a, hm, rfl⟩ := h
    obtain ⟨v, vr, rfl, ⟨b, hb, rfl⟩, rfl⟩ := hs
    split at q
    · rename_i l l' z z'
      obtain ⟨vs, h1, h2⟩ := r.lst hm z
      obtain ⟨us, h3, h4⟩ := r.lst hb z'
      split at q
      · rename_i hz
        exact ⟨a, b, vs, us, rfl, rfl, h1, h3, by rw [h2.length, h4.length, ← line_eq]; exact hz, q _ _ _ (r.step_write hm z) (r.write hm z (h2.append h4)) rfl⟩
      · exact q.elim
    · exact q.elim
  · exact q.elim⟩
theorem MtR.orX {id : String} {r r' : V → List V → Hp → VK → Prop} (h : MtR X id r) (h' : MtR X id r') : MtR X id (fun x xs H Q => r x xs H Q ∨ r' x xs H Q) := L2.MtR.or h h'
theorem md_pop : MdOk X "pop" "list" mPop := ⟨by decide, _, _, PySem.F.plainAttrs_list, PySem.F.slot_list_pop, PySem.F.type_list_pop, L2.MtR.or mt_pop mt_popAt, fun m S H d x ds xs Q r h hs q => by
  unfold mPop at q
  split at q
  · rename_i n
    obtain ⟨a, hm, rfl⟩ := h
    cases hs
    split at q
    · rename_i l z
      obtain ⟨vs, h1, h2⟩ := r.lst hm z
      split at q
      · rename_i y hy
        obtain ⟨v, g1, g2⟩ := h2.get hy
        exact .inl ⟨a, vs, v, rfl, rfl, h1, by rw [h2.length]; exact g1, q _ _ _ (r.step_write hm z) (r.write hm z h2.dropLast) (g2.step (r.step_write hm z))⟩
      · exact q.elim
    · exact q.elim
  · rename_i n i
    obtain ⟨a, hm, rfl⟩ := h
    obtain ⟨v0, vr, rfl, rfl, rfl⟩ := hs
    split at q
    · rename_i l z
      obtain ⟨vs, h1, h2⟩ := r.lst hm z
      split at q
      · rename_i k hk
        split at q
        · rename_i y hy
          obtain ⟨v, g1, g2⟩ := h2.get hy
          obtain ⟨s1, s2, s3, s4⟩ := ixN_seq hk
          split at q
          · rename_i hb
            exact .inr ⟨a, vs, i, k, v, rfl, rfl, h1, by omega, by omega, by rw [h2.length]; exact s1, g1, q _ _ _ (r.step_write hm z) (r.write hm z (h2.eraseIdx k)) (g2.step (r.step_write hm z))⟩
          · exact q.elim
        · exact q.elim
      · exact q.elim
    · exact q.elim
  · exact q.elim⟩
theorem md_insert : MdOk X "insert" "list" mInsert := ⟨by decide, _, _, PySem.F.plainAttrs_list, PySem.F.slot_list_insert, PySem.F.type_list_insert, mt_insert, fun m S H d x ds xs Q r h hs q => by
  unfold mInsert at q
  split at q
  · rename_i n i y
    obtain ⟨a, hm, rfl⟩ := h
    obtain ⟨v0, vr, rfl, rfl, v, vr, rfl, hv, rfl⟩ := hs
    split at q
    · rename_i l z
      obtain ⟨vs, h1, h2⟩ := r.lst hm z
      split at q
      · rename_i hz
        exact ⟨a, vs, i, v, rfl, rfl, h1, by rw [h2.length, ← line_eq]; exact hz.1, hz.2.1, by omega, q _ _ _ (r.step_write hm z) (r.write hm z (((h2.take _).append (RDs.one hv)).append (h2.drop _))) rfl⟩
      · exact q.elim
    · exact q.elim
  · exact q.elim⟩
theorem countIn_map (c : Nat) : ∀ l : List Nat, PySem.Spec.countIn (.str ⟨#[c]⟩) (l.map fun n => PyData.str ⟨#[n]⟩) = (l.count c : Nat)
  | [] => rfl
  | n :: l => by
    have ih := countIn_map c l
    show (if PySem.Spec.same (.str ⟨#[n]⟩) (.str ⟨#[c]⟩) = true then (1 : Int) else 0) + PySem.Spec.countIn (.str ⟨#[c]⟩) (l.map fun n => PyData.str ⟨#[n]⟩) = _
    rw [ih, List.count_cons]
    by_cases e : n = c
    · subst e
      rw [if_pos (by first | rfl | simp [PySem.Spec.same] | exact PyProof.Rows.same_refl _), if_pos (by simp)]
      omega
    · have e2 : PySem.Spec.same (.str ⟨#[n]⟩) (.str ⟨#[c]⟩) = false := by
        have : (⟨#[n]⟩ : Str) ≠ ⟨#[c]⟩ := fun z => e (by simpa using congrArg Str.cps z)
        first
          | simp [PySem.Spec.same, this]
          | (show ((⟨#[n]⟩ : Str) == ⟨#[c]⟩) = false; simpa using this)
      rw [if_neg (by rw [e2]; decide), if_neg (by simpa using e)]
      omega
theorem md_countS : MdOk X "count" "str" mCountS := ⟨by decide, _, _, PySem.F.plainAttrs_str, PySem.F.slot_str_count, PySem.F.type_str_count, mt_count, fun m S H d x ds xs Q r h hs q => by
  unfold mCountS at q
  split at q
  · rename_i x c
    cases h
    obtain ⟨v, vr, rfl, rfl, rfl⟩ := hs
    refine ⟨_, _, rfl, rfl, ?_⟩
    have e : Txt.count ⟨x.toArray⟩ ⟨[c].toArray⟩ = (x.count c : Nat) := by
      have e1 := PyProof.Rows.count_is ⟨x.toArray⟩ c
      rw [show (⟨[c].toArray⟩ : Str) = ⟨#[c]⟩ from rfl, e1]
      exact countIn_map c x
    rw [e]
    exact Post.now q r rfl
  · exact q.elim⟩
theorem md_countL : MdOk X "count" "list" mCountL := ⟨by decide, _, _, PySem.F.plainAttrs_list, PySem.F.slot_list_count, PySem.F.type_list_count, mt_lcount, fun m S H d x ds xs Q r h hs q => by
  unfold mCountL at q
  split at q
  · rename_i n k
    obtain ⟨a, hm, rfl⟩ := h
    obtain ⟨v, vr, rfl, rfl, rfl⟩ := hs
    split at q
    · rename_i ns hl
      cases z : cellL S[n]? with
      | none => rw [z] at hl; cases hl
      | some l =>
        rw [z] at hl
        obtain ⟨vs, h1, h2⟩ := r.cellL hm z
        have e := intsD_vs h2 hl
        subst e
        exact ⟨a, ns, k, rfl, rfl, h1, Post.now q r rfl⟩
    · exact q.elim
  · exact q.elim⟩
theorem md_join : MdOk X "join" "str" mJoin := ⟨by decide, _, _, PySem.F.plainAttrs_str, PySem.F.slot_str_join, PySem.F.type_str_join, mt_join, fun m S H d x ds xs Q r h hs q => by
  unfold mJoin at q
  split at q
  · rename_i a d
    cases h
    obtain ⟨v, vr, rfl, hd, rfl⟩ := hs
    split at q
    · rename_i l hl
      split at q
      · rename_i hz
        cases z : listD d S with
        | none => rw [z] at hl; cases hl
        | some ll =>
          rw [z] at hl
          obtain ⟨p, vs, rfl, h1, h2⟩ := listD_ok r hd z
          have e := strsD_vs h2 hl
          subst e
          refine ⟨⟨a.toArray⟩, p, _, rfl, rfl, h1, ?_, ?_⟩
          · rw [List.map_map, List.length_map, strLen]
            have : ((fun x => x.length) ∘ fun x : List Nat => (⟨x.toArray⟩ : Str)) = List.length := by
              funext x
              exact strLen x
            rw [this]
            exact hz
          · have e : Txt.join ⟨a.toArray⟩ (l.map fun x => (⟨x.toArray⟩ : Str)) = ⟨(TL.joinL a l).toArray⟩ := by
              rw [TL.join_eq]
              apply TL.ext_tl
              rw [TL.tl_join, List.map_map]
              have : (TL.tl ∘ fun x : List Nat => (⟨x.toArray⟩ : Str)) = id := by
                funext x
                rfl
              rw [this, List.map_id]
            rw [e]
            exact Post.now q r rfl
      · exact q.elim
    · exact q.elim
  · exact q.elim⟩
end
end T

set_option Elab.async false
set_option linter.all false
set_option maxRecDepth 100000
set_option maxHeartbeats 1000000
/-! Stores; several names at once; the tables. -/
namespace T
open PySem PySem.Spec PyProof.Rows L2
/-! ### o[i] = v -/
def pSet (x y v : D) (S : Store) : Option Store := match x, y with
  | .ref n, .int i => match S[n]? with
    | some (.lst l) => (ixN l.length i).map fun j => S.set n (.lst (l.set j v))
    | _ => none
  | _, _ => none
section
variable {X : Cx} {pos : Pos}
theorem pSet_ok {m : List Addr} {S S' : Store} {H : Hp} {x y d : D} {o i v : V} {Q : Hp → Prop} (r : Rel X.K m S H) (h1 : RD X.K m H x o) (h2 : RD X.K m H y i) (h3 : RD X.K m H d v) (e : pSet x y d S = some S') (q : ∀ H', Step m H m H' → Rel X.K m S' H' → Q H') : rSetL o i v H Q := by
  cases x <;> first | cases e | skip
  cases y <;> first | cases e | skip
  rename_i n k
  obtain ⟨a, hm, rfl⟩ := h1
  cases h2
  have e' : (match S[n]? with
    | some (.lst l) => (ixN l.length k).map fun j => S.set n (.lst (l.set j d))
    | _ => none) = some S' := e
  split at e'
  · rename_i l z
    obtain ⟨vs, g1, g2⟩ := r.lst hm z
    cases zz : ixN l.length k with
    | none => rw [zz] at e'; cases e'
    | some j =>
      rw [zz] at e'
      cases e'
      exact ⟨a, vs, k, j, rfl, rfl, g1, by rw [g2.length]; exact zz, q _ (r.step_write hm z) (r.write hm z (g2.set h3 j))⟩
  · cases e'
theorem s_sub {e o i : Expr} {spos : Pos} {fe fo fi : Ev} (he : PE X e (tE X.K fe)) (ho : PE X o (tE X.K fo)) (hi : PE X i (tE X.K fi))
    (ha : ∀ v, assign (.Subscript o i pos) X.env v = (do
      let ov ← holding [v] (eval o X.env)
      let iv ← holding [v, ov] (eval i X.env)
      standAt pos
      holding [v, ov, iv] (setItem ov iv v)
      release [v, ov, iv] [])) (hs : swapsWithSole [.Subscript o i pos] e spos.line X.env = pure false) (hw : swappedStores [.Subscript o i pos] e X.env = pure none) (h1 : (assignEach [.Subscript o i pos] X.env).map (·.2) = [assign (.Subscript o i pos) X.env]) :
    PS X (.Assign [.Subscript o i pos] e spos) (tS X.K (sSub pSet fe fo fi)) := by
  refine L2.PS.weak (ps_asg he (pg_sub ho hi set_list ha) hs hw h1) fun D σ H ⟨m, S, ρ, r, rs, q⟩ => ?_
  refine tE_on r rs (goodS_ofR.mp q) fun d S1 m1 H1 v q1 st1 r1 rs1 d1 => ?_
  refine tE_on r1 rs1 (goodS_ofR.mp q1) fun d' S2 m2 H2 v' q2 st2 r2 rs2 d2 => ?_
  refine tE_on r2 rs2 (goodS_ofR.mp q2) fun d'' S3 m3 H3 v'' q3 st3 r3 rs3 d3 => ?_
  cases z : pSet d' d'' d S3 with
  | none => rw [z] at q3; exact q3.elim
  | some S4 =>
    rw [z] at q3
    exact pSet_ok r3 (d2.step st3) d3 ((d1.step st2).step st3) z fun H4 st4 r4 => q3 m3 H4 σ (((st1.trans st2).trans st3).trans st4) r4 (rs3.step st4)
/-! ### o[i] op= v -/
theorem get_ok {m : List Addr} {S : Store} {H : Hp} {x y : D} {o i : V} {Q : VK} (r : Rel X.K m S H) (h1 : RD X.K m H x o) (h2 : RD X.K m H y i) (q : goodR (bIx x y S) (Post X.K m H Q)) : rO X.K bIx o i H Q := ⟨m, S, x, y, r, h1, h2, q⟩
theorem get_list : PGet X (rIxL X.K) := by
  intro pins s σ H x y v u Q I rx ry h
  obtain ⟨p, xs, i, z, rfl, rfl, hq, he, q⟩ := h
  cases rx
  obtain ⟨t, rfl⟩ := ry
  obtain ⟨its, r, pl, hz⟩ := I.list hq
  obtain ⟨j, h1, h2, h3, h4, h5⟩ := atI_get he
  obtain ⟨w, ew, rw'⟩ := r.get h2
  have hl := r.length
  have hn := line63
  have fin : EP X pins σ Q w s := ⟨z, H, I, rw', q⟩
  by_cases h0 : 0 ≤ i
  · have hj : i.toNat = j := by
      rw [seqIndex_of h0 h5] at h1
      exact Option.some.inj h1
    exact wpAny_getItem_list (Q := EP X pins σ Q) pl.isList h0 (by omega) (by rw [hj]; simpa using ew) fin
  · have hj : (i + (its.toArray.size : Int)).toNat = j := by
      rw [seqIndex_neg (by omega) h4] at h1
      rw [List.size_toArray, ← hl]
      exact Option.some.inj h1
    exact wpAny_getItem_list_neg (Q := EP X pins σ Q) pl.isList (by omega) (by rw [List.size_toArray] <;> omega) (by omega) (by rw [hj]; simpa using ew) fin
/-- of a list alone -/
def bIxL (x y : D) (S : Store) : R D := match x, y with
  | .ref n, .int i => match (cellL S[n]?).bind (atI · i) with
    | some d => .ok d S
    | none => .err
  | _, _ => .err
theorem s_augS {o i e : Expr} {tpos : Pos} {op : Operator} {f : D → D → Store → R D} {fo fi fe : Ev} (ho : PE X o (tE X.K fo)) (hi : PE X i (tE X.K fi)) (he : PE X e (tE X.K fe)) (hp : OpR X (inplaceOp op) (rO X.K f))
    (ha : ∀ ov iv new, augStore i ov iv new = (do holding [new, ov, iv] (setItem ov iv new); release [new, ov, iv] []; pure .next)) : PS X (.AugAssign (.Subscript o i tpos) op e pos) (tS X.K (sAugS bIxL f pSet fo fi fe)) := by
  have hp' : PIp X op (rO X.K f) := fun pins s σ H x y v u Q I rx ry h => hp pins s σ H x y v u Q I rx ry h
  refine L2.PS.weak (ps_augS ho hi get_list he hp' set_list ha) fun D σ H ⟨m, S, ρ, r, rs, q⟩ => ?_
  refine tE_on r rs (goodS_ofR.mp q) fun d1 S1 m1 H1 v1 q1 st1 r1 rs1 h1 => ?_
  refine tE_on r1 rs1 (goodS_ofR.mp q1) fun d2 S2 m2 H2 v2 q2 st2 r2 rs2 h2 => ?_
  have q2' := goodS_ofR.mp q2
  have h1' := h1.step st2
  cases d1 <;> first | exact q2'.elim | skip
  cases d2 <;> first | exact q2'.elim | skip
  rename_i n k
  obtain ⟨a, hm, rfl⟩ := h1'
  cases h2
  have q3 : goodR (match (cellL S2[n]?).bind (atI · k) with
    | some d => R.ok d S2
    | none => .err) _ := q2'
  split at q3
  · rename_i d3 hd3
    cases z : cellL S2[n]? with
    | none => rw [z] at hd3; cases hd3
    | some l =>
      rw [z] at hd3
      obtain ⟨vs, g1, g2⟩ := r2.cellL hm z
      obtain ⟨w, g3, g4⟩ := atI_RD g2 hd3
      refine ⟨a, vs, k, w, rfl, rfl, g1, g3, ?_⟩
      refine tE_on r2 rs2 (goodS_ofR.mp q3) fun d4 S4 m4 H4 v4 q4 st4 r4 rs4 h4 => ?_
      refine ⟨m4, S4, d3, d4, r4, g4.step st4, h4, (goodS_ofR.mp q4).mono fun z5 S5 p m5 H5 u st5 r5 h5 => ?_⟩
      cases zz : pSet (.ref n) (.int k) z5 S5 with
      | none => rw [zz] at p; exact p.elim
      | some S6 =>
        rw [zz] at p
        exact pSet_ok (x := .ref n) (y := .int k) r5 ⟨a, st5.get (st4.get hm), rfl⟩ rfl h5 zz fun H6 st6 r6 => p m5 H6 σ ((((st1.trans st2).trans st4).trans st5).trans st6) r6 ((rs4.step st5).step st6)
  · exact q3.elim
/-! ### a, b = x, y -/
def notStar : Expr → Bool
  | .Starred .. => false
  | _ => true
theorem swap2 {env : PySem.Env} {x y : Str} {px py pt pt2 : Pos} {kt k2 : Nat} {a b : Expr} (hb : env.blockKind = .function) (hx : env.kindOf x = some .local) (hy : env.kindOf y = some .local) (hne : (x == y) = false) (hl : (py.line == px.line) = true) (ha : notStar a = true) (hb2 : notStar b = true)
    (hf : (foldedForSure 8 a && foldedForSure 8 b) = false) (hc : (constantsAlone 8 a && constantsAlone 8 b) = false) : swappedStores [.Tuple [.Name x px, .Name y py] kt pt] (.Tuple [a, b] k2 pt2) env = pure (some [x, y]) := by
  have hyx : (y == x) = false := by
    rw [beq_eq_false_iff_ne] at hne ⊢
    exact fun e => hne e.symm
  have e3 : [x, y].eraseDups.length = 2 := by simp [List.eraseDups_cons, hyx, hne]
  have hpl : (Expr.Name x px).pos.line = px.line := rfl
  unfold swappedStores
  simp only [List.length_cons, List.length_nil, List.any_cons, List.any_nil, List.head?_cons, Option.map_some, Option.getD_some, List.all_cons, List.all_nil, Bool.and_true, hf, hc, hb, List.filterMap_cons, List.filterMap_nil, hx, hy, hpl, hl, beq_self_eq_true, Bool.and_self, if_true, e3]
  rw [if_neg (by decide), if_neg, if_neg (by decide), if_neg (by decide), if_neg (by decide)]
  intro h
  simp only [Bool.or_eq_true, Bool.or_false] at h
  rcases h with h | h
  · cases a <;> first | exact Bool.noConfusion h | cases ha
  · cases b <;> first | exact Bool.noConfusion h | cases hb2
theorem swap3 {env : PySem.Env} {x y z : Str} {px py pz pt pt2 : Pos} {kt k2 : Nat} {a b c : Expr} (hb : env.blockKind = .function) (hx : env.kindOf x = some .local) (hy : env.kindOf y = some .local) (hz : env.kindOf z = some .local) (hxy : (x == y) = false) (hxz : (x == z) = false) (hyz : (y == z) = false) (hl : (py.line == px.line) = true) (hl2 : (pz.line == px.line) = true)
    (ha : notStar a = true) (hb2 : notStar b = true) (hc2 : notStar c = true)
    (hf : (foldedForSure 8 a && (foldedForSure 8 b && foldedForSure 8 c)) = false) (hc : (constantsAlone 8 a && (constantsAlone 8 b && constantsAlone 8 c)) = false) : swappedStores [.Tuple [.Name x px, .Name y py, .Name z pz] kt pt] (.Tuple [a, b, c] k2 pt2) env = pure (some [x, y, z]) := by
  have sy : ∀ {u v : Str}, (u == v) = false → (v == u) = false := fun {u v} h => by
    rw [beq_eq_false_iff_ne] at h ⊢
    exact fun e => h e.symm
  have e3 : [x, y, z].eraseDups.length = 3 := by simp [List.eraseDups_cons, hxy, hxz, hyz, sy hxy, sy hxz, sy hyz]
  have hpl : (Expr.Name x px).pos.line = px.line := rfl
  unfold swappedStores
  simp only [List.length_cons, List.length_nil, List.any_cons, List.any_nil, List.head?_cons, Option.map_some, Option.getD_some, List.all_cons, List.all_nil, Bool.and_true, hf, hc, hb, List.filterMap_cons, List.filterMap_nil, hx, hy, hz, hpl, hl, hl2, beq_self_eq_true, Bool.and_self, if_true, e3]
  rw [if_neg (by decide), if_neg, if_neg (by decide), if_neg (by decide), if_neg (by decide)]
  intro h
  simp only [Bool.or_eq_true, Bool.or_false] at h
  rcases h with h | h | h
  · cases a <;> first | exact Bool.noConfusion h | cases ha
  · cases b <;> first | exact Bool.noConfusion h | cases hb2
  · cases c <;> first | exact Bool.noConfusion h | cases hc2
/-- targets that are no row of 2 or 3 names with a written row of values -/
theorem swap_no {env : PySem.Env} {tg e : Expr} (h : (match e with | .Tuple .. => false | _ => true) = true) : swappedStores [tg] e env = pure none := by
  cases e <;> first | exact Bool.noConfusion h | (cases tg <;> rfl)
theorem swap_folded {env : PySem.Env} {tg : Expr} {vs : List Expr} {k2 : Nat} {pt2 : Pos} (h : vs.all (foldedForSure 8) = true) : swappedStores [tg] (.Tuple vs k2 pt2) env = pure none := by
  have fin : ∀ ts : List Expr, (do
      if !(ts.length == 2 || ts.length == 3) || vs.length != ts.length || env.blockKind != .function then return none
      if vs.any fun | .Starred .. => true | _ => false then return none
      let line := (ts.head?.map (·.pos.line)).getD 0
      let names := ts.filterMap fun
        | .Name id pos => if env.kindOf id == some .local && pos.line == line then some id else none
        | _ => none
      if names.length != ts.length || names.eraseDups.length != names.length then return none
      if vs.all (foldedForSure 8) then return none
      if vs.all (constantsAlone 8) then unsupported "assign.tuple-of-constant-expressions:order-of-the-stores"
      return some names : Sem (Option (List Str))) = pure none := by
    intro ts
    simp only [h, if_true]
    split
    · rfl
    · split
      · rfl
      · split <;> rfl
  cases tg <;> first | rfl | exact fin _
theorem s_par2 {i j : Nat} {x y : Str} {a b : Expr} {l : LEv} {px py pt : Pos} {kt k2 pt2} (hcalm : X.calm = true) (hN : X.N.Nodup) (hi : X.N[i]? = some x) (hj : X.N[j]? = some y) (hij : i ≠ j)
    (hx : X.env.scope.names.lookup x = some .local) (hy : X.env.scope.names.lookup y = some .local) (hl : PA X [a, b] (tL X.K l))
    (hw : swappedStores [.Tuple [.Name x px, .Name y py] kt pt] (.Tuple [a, b] k2 pt2) X.env = pure (some [x, y])) (hs : swapsWithSole [.Tuple [.Name x px, .Name y py] kt pt] (.Tuple [a, b] k2 pt2) pos.line X.env = pure false) :
    PS X (.Assign [.Tuple [.Name x px, .Name y py] kt pt] (.Tuple [a, b] k2 pt2) pos) (tS X.K (sPar l (tgCons (tgN i) (tgCons (tgN j) tgNil)))) := by
  refine L2.PS.weak (ps_par hcalm hN hi hj hij hx hy hl hw hs) fun D σ H ⟨m, S, ρ, r, rs, q⟩ => ?_
  have q0 : goodR (l ρ S) fun ds S1 => goodS (match tgCons (tgN i) (tgCons (tgN j) tgNil) ds ρ S1 with | some ρ1 => SR.nx ρ1 S1 | none => .err) (PostN X.K m H D.nx) (Post X.K m H D.rt) := by
    unfold sPar at q
    cases e : l ρ S with
    | ok ds S1 => rw [e] at q; exact q
    | exc c d S1 => rw [e] at q; exact q.elim
    | err => rw [e] at q; exact q.elim
  refine tL_on r rs q0 fun ds S1 m1 H1 vs q1 st1 r1 rs1 d1 => ?_
  cases ds with
  | nil => exact q1.elim
  | cons d ds =>
    unfold tgCons tgN at q1
    dsimp only at q1
    by_cases h1 : i < ρ.length
    · rw [if_pos h1] at q1
      dsimp only at q1
      cases ds with
      | nil => exact q1.elim
      | cons d' ds =>
        dsimp only at q1
        by_cases h2 : j < (ρ.set i (some d)).length
        · rw [if_pos h2] at q1
          cases ds with
          | nil =>
            obtain ⟨v, vr, rfl, hv, w, wr, rfl, hw', rfl⟩ := d1
            exact ⟨v, w, rfl, q1 m1 H1 _ st1 r1 ((rs1.set i hv).set j hw')⟩
          | cons _ _ => exact q1.elim
        · rw [if_neg h2] at q1; exact q1.elim
    · rw [if_neg h1] at q1; exact q1.elim
theorem s_par3 {i j k : Nat} {x y z : Str} {a b c : Expr} {l : LEv} {px py pz pt : Pos} {kt k2 pt2} (hcalm : X.calm = true) (hN : X.N.Nodup) (hi : X.N[i]? = some x) (hj : X.N[j]? = some y) (hk : X.N[k]? = some z) (hij : i ≠ j) (hik : i ≠ k) (hjk : j ≠ k)
    (hx : X.env.scope.names.lookup x = some .local) (hy : X.env.scope.names.lookup y = some .local) (hz : X.env.scope.names.lookup z = some .local) (hl : PA X [a, b, c] (tL X.K l))
    (hw : swappedStores [.Tuple [.Name x px, .Name y py, .Name z pz] kt pt] (.Tuple [a, b, c] k2 pt2) X.env = pure (some [x, y, z])) (hs : swapsWithSole [.Tuple [.Name x px, .Name y py, .Name z pz] kt pt] (.Tuple [a, b, c] k2 pt2) pos.line X.env = pure false) :
    PS X (.Assign [.Tuple [.Name x px, .Name y py, .Name z pz] kt pt] (.Tuple [a, b, c] k2 pt2) pos) (tS X.K (sPar l (tgCons (tgN i) (tgCons (tgN j) (tgCons (tgN k) tgNil))))) := by
  refine L2.PS.weak (ps_par3 hcalm hN hi hj hk hij hik hjk hx hy hz hl hw hs) fun D σ H ⟨m, S, ρ, r, rs, q⟩ => ?_
  have q0 : goodR (l ρ S) fun ds S1 => goodS (match tgCons (tgN i) (tgCons (tgN j) (tgCons (tgN k) tgNil)) ds ρ S1 with | some ρ1 => SR.nx ρ1 S1 | none => .err) (PostN X.K m H D.nx) (Post X.K m H D.rt) := by
    unfold sPar at q
    cases e : l ρ S with
    | ok ds S1 => rw [e] at q; exact q
    | exc c d S1 => rw [e] at q; exact q.elim
    | err => rw [e] at q; exact q.elim
  refine tL_on r rs q0 fun ds S1 m1 H1 vs q1 st1 r1 rs1 d1 => ?_
  cases ds with
  | nil => exact q1.elim
  | cons d ds =>
    unfold tgCons tgN at q1
    dsimp only at q1
    by_cases h1 : i < ρ.length
    · rw [if_pos h1] at q1
      dsimp only at q1
      cases ds with
      | nil => exact q1.elim
      | cons d' ds =>
        dsimp only at q1
        by_cases h2 : j < (ρ.set i (some d)).length
        · rw [if_pos h2] at q1
          dsimp only at q1
          cases ds with
          | nil => exact q1.elim
          | cons d'' ds =>
            dsimp only at q1
            by_cases h3 : k < ((ρ.set i (some d)).set j (some d')).length
            · rw [if_pos h3] at q1
              cases ds with
              | nil =>
                obtain ⟨v, vr, rfl, hv, w, wr, rfl, hw', u, ur, rfl, hu, rfl⟩ := d1
                exact ⟨v, w, u, rfl, q1 m1 H1 _ st1 r1 (((rs1.set i hv).set j hw').set k hu)⟩
              | cons _ _ => exact q1.elim
            · rw [if_neg h3] at q1; exact q1.elim
        · rw [if_neg h2] at q1; exact q1.elim
    · rw [if_neg h1] at q1; exact q1.elim
end
end T

set_option Elab.async false
set_option linter.all false
set_option maxRecDepth 100000
set_option maxHeartbeats 2000000
/-! The compiler from the text to the clean semantics. -/
namespace T
open PySem PySem.Spec PyProof.Rows L2
structure Ctx where
  N : List Str
  sc : Scope
  fnc : Str → Bool
  fn : List (Str × Nat × FSem)
  con : List (Str × D)
  blt : List Str
def Ctx.ix (g : Ctx) (x : Str) : Option Nat := g.N.findIdx? (· == x)
def Ctx.gl (g : Ctx) (x : Str) : Bool := g.sc.names.lookup x == some .globalImplicit
def Ctx.lo (g : Ctx) (x : Str) : Bool := g.sc.names.lookup x == some .local
def Ctx.ce (g : Ctx) (x : Str) : Bool := g.sc.names.lookup x == some .cell
def Ctx.fr (g : Ctx) (x : Str) : Bool := g.sc.names.lookup x == some .free
def relS (scope sc : Scope) : Scope := { scope with names := scope.names.map fun (n, k) => if (k == .free && sc.kind == .function && sc.names.lookup n == some .cell) then (n, .cell) else (n, k) }
def Ctx.inner (g : Ctx) (scope : Scope) : Ctx := { g with sc := relS scope g.sc, fnc := fun x => scope.names.lookup x == some .cell }
/-- the names that no def ever uses otherwise -/
def odd (x : Str) : Bool := x == ("__debug__" : Str) || x == ("__classdict__" : Str)
def cName (g : Ctx) (x : Str) : Option Ev :=
  if odd x = true then none else
  if g.gl x = true then (g.con.lookup x).map eC else
  if (g.lo x || g.ce x || g.fr x) = true then (g.ix x).map eVar else none
def constD : Const → Option D
  | .int i => some (.int i)
  | .str s => some (.str s.cps.toList)
  | .bool b => some (.bl b)
  | .none => some .non
  | _ => none
def binF : Operator → Option (D → D → Store → R D)
  | .Add => some bAdd
  | .Sub => some bSub
  | .Mult => some bMulX
  | .FloorDiv => some bDiv
  | .Mod => some bMod
  | .Pow => some bPow
  | _ => none
def ibinF : Operator → Option (D → D → Store → R D)
  | .Add => some bIAdd
  | .Sub => some bSub
  | _ => none
def cmpF : CmpOp → Option (D → D → Store → R D)
  | .Eq => some bEq
  | .NotEq => some bNe
  | .Lt => some bLt
  | .LtE => some bLe
  | .Gt => some bGt
  | .GtE => some bGe
  | .Is => some bIs
  | .IsNot => some bIsNot
  | .In => some bIn
  | .NotIn => some bNotIn
def bltTab : List (String × Bool × String × FSem) :=
  [("len", false, "len", fLen), ("list", true, "list", fList), ("tuple", true, "tuple", fTuple), ("sum", false, "sum", fSum), ("all", false, "all", fAll), ("any", false, "any", fAny), ("int", true, "int", fInt), ("abs", false, "abs", fAbs),
    ("min", false, "min", fMin), ("max", false, "max", fMax), ("sorted", false, "sorted", fSorted)]
def bltF (x : Str) : Option (String × Bool × String × FSem) := bltTab.find? fun p => Str.ofString p.1 == x
def methTab : List (String × String × MSem) :=
  [("append", "list", mAppend), ("extend", "list", mExtend), ("pop", "list", mPop), ("insert", "list", mInsert), ("count", "str", mCountS), ("count", "list", mCountL), ("join", "str", mJoin)]
def methF (name : Str) (T : String) : Option MSem := (methTab.find? fun p => Str.ofString p.1 == name && p.2.1 == T).map (·.2.2)
def isSlice : Expr → Bool
  | .Slice .. => true
  | _ => false
def notSet : Expr → Bool
  | .Set .. => false
  | _ => true
def notComp : Expr → Bool
  | .ListComp .. => false
  | .SetComp .. => false
  | .DictComp .. => false
  | _ => true
def okBase : Expr → Bool
  | .Call _ [] _ _ => false
  | _ => true
def plainTruth : Expr → Bool
  | .UnaryOp .Not _ _ => false
  | .BoolOp .. => false
  | .IfExp .. => false
  | .Compare .. => false
  | _ => true
def notTup : Expr → Bool
  | .Tuple .. => false
  | _ => true
def Ctx.bl (g : Ctx) (x : Str) : Bool := g.gl x && g.blt.contains x && !odd x
def Ctx.st (g : Ctx) (x : Str) : Bool := g.lo x || (g.ce x && g.fnc x)
def ownS (g : Ctx) (scope : Scope) : List (Str × Nat) := (scope.names.filter fun p => p.2 == .local || p.2 == .cell).filterMap fun p => (g.ix p.1).map fun i => (p.1, i)
/-- what a comprehension's own scope must be -/
def blkB (N : List Str) (sc scope : Scope) (own : List (Str × Nat)) : Bool :=
  decide (scope.kind = .function) && scope.names.all (fun y => scope.names.lookup y.1 == some y.2) && own.all (fun p => N[p.2]? == some p.1) &&
    scope.names.all (fun y => !(y.2 == .free) || sc.names.lookup y.1 == some .cell || sc.names.lookup y.1 == some .free) && scope.names.all (fun y => !(y.2 == .local || y.2 == .cell) || (own.map (·.1)).contains y.1 || !N.contains y.1)
def par2B (g : Ctx) (x y : Str) (px py : Pos) (a b : Expr) : Bool :=
  g.lo x && g.lo y && !(x == y) && py.line == px.line && notStar a && notStar b && !(foldedForSure 8 a && foldedForSure 8 b) && !(constantsAlone 8 a && constantsAlone 8 b)
def par3B (g : Ctx) (x y z : Str) (px py pz : Pos) (a b c : Expr) : Bool :=
  g.lo x && g.lo y && g.lo z && !(x == y) && !(x == z) && !(y == z) && py.line == px.line && pz.line == px.line && notStar a && notStar b && notStar c && !(foldedForSure 8 a && (foldedForSure 8 b && foldedForSure 8 c)) && !(constantsAlone 8 a && (constantsAlone 8 b && constantsAlone 8 c))
def o2 {α β γ : Type} (a : Option α) (b : Option β) (f : α → β → γ) : Option γ := match a, b with
  | some x, some y => some (f x y)
  | _, _ => none
def o3 {α β γ δ : Type} (a : Option α) (b : Option β) (c : Option γ) (f : α → β → γ → δ) : Option δ := match a, b, c with
  | some x, some y, some z => some (f x y z)
  | _, _, _ => none
theorem o2_some {α β γ : Type} {a : Option α} {b : Option β} {f : α → β → γ} {r : γ} (h : o2 a b f = some r) : ∃ x y, a = some x ∧ b = some y ∧ r = f x y := by
  unfold o2 at h
  split at h
  · cases h; exact ⟨_, _, rfl, rfl, rfl⟩
  · cases h
theorem o3_some {α β γ δ : Type} {a : Option α} {b : Option β} {c : Option γ} {f : α → β → γ → δ} {r : δ} (h : o3 a b c f = some r) : ∃ x y z, a = some x ∧ b = some y ∧ c = some z ∧ r = f x y z := by
  unfold o3 at h
  split at h
  · cases h; exact ⟨_, _, _, rfl, rfl, rfl, rfl⟩
  · cases h
theorem map_some {α β : Type} {a : Option α} {f : α → β} {r : β} (h : a.map f = some r) : ∃ x, a = some x ∧ r = f x := by
  cases a with
  | none => cases h
  | some x => cases h; exact ⟨x, rfl, rfl⟩
/-! ### targets -/
mutual
def cG (g : Ctx) : Nat → Bool → Expr → Option (Tg × List Nat)
  | 0, _, _ => none
  | n + 1, weak, e => match e with
    | .Name x _ => if (!weak && g.st x) = true then (g.ix x).map fun i => (tgN i, [i]) else none
    | .Tuple es _ _ => if es.all notStar = true then (cGs g n es).map fun p => (tgT p.1, p.2) else none
    | _ => none
def cGs (g : Ctx) : Nat → List Expr → Option (Tgs × List Nat)
  | 0, _ => none
  | n + 1, es => match es with
    | [] => some (tgNil, [])
    | e :: r => o2 (cG g n false e) (cGs g n r) fun p q => (tgCons p.1 q.1, p.2 ++ q.2)
end
def listRange : List Expr → Option (List Expr)
  | [.Call (.Name r _) as [] _] => if r == ("range" : Str) then some as else none
  | _ => none
mutual
def cE : Nat → Ctx → Expr → Option Ev
  | 0, _, _ => none
  | n + 1, g, e => match e with
    | .Name x _ => cName g x
    | .Constant c _ _ => (constD c).map eC
    | .BinOp a op b _ => o3 (binF op) (cE n g a) (cE n g b) e2
    | .UnaryOp .USub a _ => (cE n g a).map (e1 uNeg)
    | .UnaryOp .Not a _ => (cE n g a).map fun f => eNot (tB f)
    | .BoolOp op vs _ => cV n g op vs
    | .Compare a [op] [b] _ => if notSet b = true then o3 (cmpF op) (cE n g a) (cE n g b) e2 else none
    | .Compare a [op, op'] [b, c] _ => if notSet c = true then o2 (o2 (cmpF op) (cmpF op') Prod.mk) (o3 (cE n g a) (cE n g b) (cE n g c) fun x y z => (x, y, z)) fun p q => eChain p.1 p.2 q.1 q.2.1 q.2.2 else none
    | .IfExp c a b _ => o3 (cT n g c) (cE n g a) (cE n g b) eIf
    | .Tuple es _ _ => (cL n g es).map eTup
    | .List es _ => (cL n g es).map eLst
    | .Subscript a (.Slice lo hi none _) _ => o3 (cE n g a) (cO n g lo) (cO n g hi) eCut
    | .Subscript a s _ => if isSlice s = true then none else o2 (cE n g a) (cE n g s) (e2 bIx)
    | .Call (.Name x _) as [] _ => cF n g x as
    | .Call (.Attribute o name apos) as [] pos => if (apos.endLine == pos.line && okBase o && decide (as.length < 30)) = true then o2 (cE n g o) (cL n g as) fun f l => eMt (methF name) f l else none
    | .ListComp elt [⟨tg, it, ifs, a⟩] scope _ => if (a == 0 && notSet it && blkB g.N g.sc scope (ownS g scope)) = true then cLc n g elt tg it ifs scope else none
    | _ => none
def cF : Nat → Ctx → Str → List Expr → Option Ev
  | 0, _, _, _ => none
  | n + 1, g, x, as => if (g.gl x && !odd x) = true then (match g.fn.lookup x with
    | some p => (cL n g as).map (eCall p.1 p.2)
    | none => if g.blt.contains x = true then
        (if (x == ("isinstance" : Str)) = true then (match as with
          | [e, .Name c _] => if (notStar e && g.bl c) = true then o2 (tyName c) (cE n g e) fun t f => eIsi f [t] else none
          | [e, .Tuple [.Name c _, .Name c2 _] _ _] => if (notStar e && g.bl c && g.bl c2) = true then o2 (o2 (tyName c) (tyName c2) Prod.mk) (cE n g e) fun t f => eIsi f [t.1, t.2] else none
          | _ => none)
        else match listRange as with
          | some bs => if (x == ("list" : Str) && g.bl ("range" : Str)) = true then (match bs with
            | [a] => if notStar a = true then (cE n g a).map fun f => eB fRng (lCons f lNil) else none
            | [a, b] => if (notStar a && notStar b) = true then o2 (cE n g a) (cE n g b) fun f f' => eB fRng (lCons f (lCons f' lNil)) else none
            | _ => none) else none
          | none => if as.isEmpty = true then none else o2 (bltF x) (cL n g as) fun p l => eB p.2.2.2 l)
      else none) else none
def cLc : Nat → Ctx → Expr → Expr → Expr → List Expr → Scope → Option Ev
  | 0, _, _, _, _, _, _ => none
  | n + 1, g, elt, tg, it, ifs, scope => match cI n g tg it with
    | some (J, weak) => match cG (g.inner scope) n weak tg with
      | some (t, sl) => if sl.all (fun i => ((ownS g scope).map (·.2)).contains i) = true then o2 (cIfs n (g.inner scope) ifs) (cE n (g.inner scope) elt) fun c f => eLc ((ownS g scope).map (·.2)) t J c f else none
      | none => none
    | none => none
def cIfs : Nat → Ctx → List Expr → Option TEv
  | 0, _, _ => none
  | n + 1, g, ifs => match ifs with
    | [] => some tYes
    | [c] => cT n g c
    | _ => none
def cT : Nat → Ctx → Expr → Option TEv
  | 0, _, _ => none
  | n + 1, g, e => match e with
    | .UnaryOp .Not a _ => (cT n g a).map tNot
    | .BoolOp op vs _ => cW n g op vs
    | .Compare a [op] [b] _ => if notSet b = true then o3 (cmpF op) (cE n g a) (cE n g b) fun f x y => tB (e2 f x y) else none
    | .Compare a [op, op'] [b, c] _ => if notSet c = true then o2 (o2 (cmpF op) (cmpF op') Prod.mk) (o3 (cE n g a) (cE n g b) (cE n g c) fun x y z => (x, y, z)) fun p q => tB (eChain p.1 p.2 q.1 q.2.1 q.2.2) else none
    | e => if plainTruth e = true then (cE n g e).map tV else none
def cW : Nat → Ctx → PySem.BoolOp → List Expr → Option TEv
  | 0, _, _, _ => none
  | n + 1, g, op, vs => match vs with
    | [] => none
    | [a] => cT n g a
    | a :: r => o2 (cT n g a) (cW n g op r) fun f f' => match op with
      | .And => tAnd f f'
      | .Or => tOr f f'
def cV : Nat → Ctx → PySem.BoolOp → List Expr → Option Ev
  | 0, _, _, _ => none
  | n + 1, g, op, vs => match vs with
    | [] => none
    | [a] => cE n g a
    | a :: r => o2 (cE n g a) (cV n g op r) fun f f' => match op with
      | .And => eAnd f f'
      | .Or => eOr f f'
def cL : Nat → Ctx → List Expr → Option LEv
  | 0, _, _ => none
  | n + 1, g, es => match es with
    | [] => some lNil
    | e :: r => if notStar e = true then o2 (cE n g e) (cL n g r) lCons else none
def cO : Nat → Ctx → Option Expr → Option OEv
  | 0, _, _ => none
  | n + 1, g, o => match o with
    | none => some oNone
    | some e => (cE n g e).map oSome
def cI : Nat → Ctx → Expr → Expr → Option (IEv × Bool)
  | 0, _, _, _ => none
  | n + 1, g, tg, e => match e with
    | .Call (.Name x _) as kws _ => if (g.bl x && (x == ("range" : Str) || x == ("zip" : Str) || x == ("enumerate" : Str))) = true then
        (if (x == ("range" : Str)) = true then (match as, kws with
          | [a], [] => (cL n g as).map fun l => (iRng1 l, false)
          | [a, b], [] => (cL n g as).map fun l => (iRng2 l, false)
          | _, _ => none)
        else if notTup tg = true then none
        else if (x == ("zip" : Str)) = true then (match as, kws with
          | [a, b], [] => (cL n g as).map fun l => (iZip false l, true)
          | [a, b], [⟨some k, .Constant (.bool true) _ _, _⟩] => if (k == ("strict" : Str)) = true then (cL n g as).map fun l => (iZip true l, true) else none
          | _, _ => none)
        else (match as, kws with
          | [a], [] => (cL n g as).map fun l => (iEnum1 l, true)
          | [a, b], [] => (cL n g as).map fun l => (iEnum2 l, true)
          | _, _ => none))
      else (cE n g e).map fun f => (iSeq f, false)
    | e => (cE n g e).map fun f => (iSeq f, false)
end
/-! ### statements -/
mutual
def cS : Nat → Ctx → Stmt → Option SEv
  | 0, _, _ => none
  | n + 1, g, s => match s with
    | .Return none _ => some sRetN
    | .Return (some e) _ => (cE n g e).map sRet
    | .Pass _ => some sNil
    | .Expr (.Constant (.str _) _ _) _ => some sNil
    | .Expr e _ => if notComp e = true then (cE n g e).map sDrop else none
    | .If c a b _ => o3 (cT n g c) (cSs n g a) (cSs n g b) sIf
    | .Raise _ _ _ => some sErr
    | .While c b [] _ => o2 (cT n g c) (cSs n g b) sWhile
    | .For tg it b [] _ => if notSet it = true then (match cI n g tg it with
      | some (J, weak) => o2 (cG g n weak tg) (cSs n g b) fun t f => sFor t.1 J f
      | none => none) else none
    | .Assign [.Name x px] e pos => if g.st x = true then o2 (g.ix x) (cE n g e) fun i f => sAsg (tgN i) f else none
    | .Assign [.Subscript o i _] e _ => if (isSlice i || !notTup e) = true then none else o3 (cE n g e) (cE n g o) (cE n g i) (sSub pSet)
    | .Assign [.Tuple [.Name x px, .Name y py] k pt] (.Tuple [a, b] k2 pt2) pos =>
        if [a, b].all (foldedForSure 8) = true then o2 (cG g n false (.Tuple [.Name x px, .Name y py] k pt)) (cE n g (.Tuple [a, b] k2 pt2)) fun t f => sAsg t.1 f
        else if par2B g x y px py a b = true then o3 (g.ix x) (g.ix y) (cL n g [a, b]) fun i j l => sPar l (tgCons (tgN i) (tgCons (tgN j) tgNil)) else none
    | .Assign [.Tuple [.Name x px, .Name y py, .Name z pz] k pt] (.Tuple [a, b, c] k2 pt2) pos =>
        if [a, b, c].all (foldedForSure 8) = true then o2 (cG g n false (.Tuple [.Name x px, .Name y py, .Name z pz] k pt)) (cE n g (.Tuple [a, b, c] k2 pt2)) fun t f => sAsg t.1 f
        else if par3B g x y z px py pz a b c = true then o2 (o3 (g.ix x) (g.ix y) (g.ix z) fun i j l => (i, j, l)) (cL n g [a, b, c]) fun i l => sPar l (tgCons (tgN i.1) (tgCons (tgN i.2.1) (tgCons (tgN i.2.2) tgNil))) else none
    | .Assign [.Tuple ts k pt] e pos => if notTup e = true then o2 (cG g n false (.Tuple ts k pt)) (cE n g e) fun t f => sAsg t.1 f else none
    | .AugAssign (.Name x _) op e _ => if g.st x = true then o3 (g.ix x) (ibinF op) (cE n g e) sAug else none
    | .AugAssign (.Subscript o i _) op e _ => if isSlice i = true then none else o2 (ibinF op) (o3 (cE n g o) (cE n g i) (cE n g e) fun x y z => (x, y, z)) fun f q => sAugS bIxL f pSet q.1 q.2.1 q.2.2
    | _ => none
def cSs : Nat → Ctx → List Stmt → Option SEv
  | 0, _, _ => none
  | n + 1, g, ss => match ss with
    | [] => some sNil
    | s :: r => o2 (cS n g s) (cSs n g r) sSeq
end
end T

set_option Elab.async false
set_option linter.all false
set_option maxRecDepth 100000
set_option maxHeartbeats 2000000
/-! The compiler is right. -/
namespace T
open PySem PySem.Spec PyProof.Rows L2
structure XG (X : Cx) (g : Ctx) (k : Nat) : Prop where
  N : X.N = g.N
  nd : g.N.Nodup
  sc : X.env.scope = g.sc
  fk : g.sc.kind = .function
  calm : X.calm = true
  room : Room k X.A
  fnc : ∀ x, g.fnc x = true → X.fn x = true
  fn : ∀ x n F, g.fn.lookup x = some (n, F) → ∃ f fd ps j, FnOk X.prog X.w X.K X.mg X.base CX0 j f fd ps (spOf X.K n F) ∧ j ≤ k ∧ X.mg x = some (.ref f) ∧ PySem.W.keepIn X.K (.ref f) = true ∧ Binds X.K fd ps []
  con : ∀ x d, g.con.lookup x = some d → ∃ v u, X.mg x = some u ∧ RelV v u ∧ ∀ m H, RD X.K m H d v
  blt : ∀ x, g.blt.contains x = true → X.mg x = none
/-! ### small facts -/
theorem notStar_each {e : Expr} {es : List Expr} {env : PySem.Env} (h : notStar e = true) : starEach (e :: es) env = (false, eval e env) :: starEach es env := by
  cases e <;> first | exact Bool.noConfusion h | rfl
theorem notStar_any {env : PySem.Env} {pos : Pos} : ∀ {es : List Expr}, es.all notStar = true → (backTo pos (starEach es env)).any (·.1) = false
  | [], _ => rfl
  | e :: r, h => by
    rw [List.all_cons, Bool.and_eq_true] at h
    rw [notStar_each h.1]
    have := notStar_any (env := env) (pos := pos) h.2
    show (false || (backTo pos (starEach r env)).any (·.1)) = false
    rw [this]; rfl
theorem notStar_all {env : PySem.Env} {pos : Pos} : ∀ {es : List Expr}, es.all notStar = true → (backTo pos (starEach es env)).all (fun x => !x.1) = true
  | [], _ => rfl
  | e :: r, h => by
    rw [List.all_cons, Bool.and_eq_true] at h
    rw [notStar_each h.1]
    have := notStar_all (env := env) (pos := pos) h.2
    show (!false && (backTo pos (starEach r env)).all (fun x => !x.1)) = true
    rw [this]; rfl
theorem notStar_asg {e : Expr} {es : List Expr} {env : PySem.Env} (h : notStar e = true) : assignEach (e :: es) env = (false, assign e env) :: assignEach es env := by
  cases e <;> first | exact Bool.noConfusion h | rfl
theorem asg_len {env : PySem.Env} : ∀ {es : List Expr}, es.all notStar = true → (assignEach es env).length = es.length
  | [], _ => rfl
  | e :: r, h => by
    rw [List.all_cons, Bool.and_eq_true] at h
    rw [notStar_asg h.1, List.length_cons, List.length_cons, asg_len h.2]
theorem asg_find {env : PySem.Env} : ∀ {es : List Expr}, es.all notStar = true → (assignEach es env).findIdx? (·.1) = none
  | [], _ => rfl
  | e :: r, h => by
    rw [List.all_cons, Bool.and_eq_true] at h
    rw [notStar_asg h.1]
    simp [List.findIdx?_cons, asg_find h.2]
theorem base_ok {o : Expr} {nm : Str} {env : PySem.Env} {w : Sem Value} (h : okBase o = true) : attributeBase o nm env w = w := by
  cases o <;> first
    | rfl
    | (rename_i f as kws pos
       cases as with
       | nil => exact Bool.noConfusion h
       | cons a r => cases f <;> rfl)
theorem notSet_fold {e : Expr} {env : PySem.Env} (h : notSet e = true) (x : Value) : foldedSetIterable e env x = pure x := by
  cases e <;> first | exact Bool.noConfusion h | rfl
theorem notSet_mark {op : CmpOp} {e : Expr} (h : notSet e = true) : behindInMarks op e = false := by
  cases e <;> first | exact Bool.noConfusion h | rfl
theorem notSet_last {op op' : CmpOp} {b c : Expr} (h : notSet c = true) : lastMarks [op, op'] [b, c] = false := notSet_mark h
theorem plain_truth {e : Expr} {env : PySem.Env} (h : plainTruth e = true) (whole : Sem Value) : isTrue e env whole = (do let v ← whole; standAt e.pos; holding [v] (truthy v)) := by
  cases e <;> first | exact Bool.noConfusion h | rfl | (rename_i op a pos; cases op <;> first | exact Bool.noConfusion h | rfl)
theorem plain_ix {s : Expr} (h : isSlice s = false) : PlainIx s := by
  intro o i
  cases s <;> first | exact Bool.noConfusion h | rfl
theorem sub_asg {o i : Expr} {pos : Pos} {env : PySem.Env} (h : isSlice i = false) (v : Value) : assign (.Subscript o i pos) env v = (do
      let ov ← holding [v] (eval o env)
      let iv ← holding [v, ov] (eval i env)
      standAt pos
      holding [v, ov, iv] (setItem ov iv v)
      release [v, ov, iv] []) := by
  cases i <;> first | exact Bool.noConfusion h | rfl
theorem sub_aug {i : Expr} (h : isSlice i = false) (ov iv new : Value) : augStore i ov iv new = (do holding [new, ov, iv] (setItem ov iv new); release [new, ov, iv] []; pure .next) := by
  cases i <;> first | exact Bool.noConfusion h | rfl
theorem comp_swaps {e : Expr} {t : Option Expr} {l : Nat} {env : PySem.Env} (h : notComp e = true) : swapsWith e t l env = pure false := by
  cases e <;> first | exact Bool.noConfusion h | rfl
theorem ix_some {g : Ctx} {x : Str} {i : Nat} (h : g.ix x = some i) : g.N[i]? = some x := by
  unfold Ctx.ix at h
  obtain ⟨h1, h2, _⟩ := List.findIdx?_eq_some_iff_getElem.mp h
  rw [List.getElem?_eq_getElem h1, beq_iff_eq.mp h2]
section
variable {X : Cx} {g : Ctx} {k : Nat}
theorem XG.gl (G : XG X g k) {x : Str} (h : g.gl x = true) : Gl X x := by
  show X.env.scope.names.lookup x = _
  rw [G.sc]
  exact beq_iff_eq.mp h
theorem XG.lo (G : XG X g k) {x : Str} (h : g.lo x = true) : X.env.scope.names.lookup x = some .local := by
  rw [G.sc]; exact beq_iff_eq.mp h
theorem XG.ce (G : XG X g k) {x : Str} (h : g.ce x = true) : X.env.scope.names.lookup x = some .cell := by
  rw [G.sc]; exact beq_iff_eq.mp h
theorem XG.fr (G : XG X g k) {x : Str} (h : g.fr x = true) : X.env.scope.names.lookup x = some .free := by
  rw [G.sc]; exact beq_iff_eq.mp h
theorem XG.st (G : XG X g k) {x : Str} (h : g.st x = true) : Loc X.env.scope x ∧ (X.fn x = true ∨ X.env.scope.names.lookup x = some .local) := by
  unfold Ctx.st at h
  rw [Bool.or_eq_true, Bool.and_eq_true] at h
  rcases h with h | ⟨h, h2⟩
  · exact ⟨.inl (G.lo h), .inr (G.lo h)⟩
  · exact ⟨.inr (G.ce h), .inl (G.fnc x h2)⟩
theorem XG.bl (G : XG X g k) {x : Str} (h : g.bl x = true) : Gl X x ∧ X.mg x = none ∧ odd x = false := by
  unfold Ctx.bl at h
  rw [Bool.and_eq_true, Bool.and_eq_true] at h
  exact ⟨G.gl h.1.1, G.blt x h.1.2, by simpa using h.2⟩
theorem XG.units (G : XG X g k) : X.A.units + 200 < cLine := by have := G.room.un; omega
theorem odd_no {x : Str} (h : odd x = false) : (x == ("__debug__" : Str)) = false ∧ (x == ("__classdict__" : Str)) = false := by
  unfold odd at h
  rwa [Bool.or_eq_false_iff] at h
theorem bin_ok {op : Operator} {f : D → D → Store → R D} (h : binF op = some f) : OpR X (binaryOp op) (rO X.K f) := by
  cases op <;> first | cases h | skip
  · exact o_add
  · exact o_sub
  · exact o_mulx
  · exact o_mod
  · exact o_pow
  · exact o_div
theorem ibin_ok {op : Operator} {f : D → D → Store → R D} (h : ibinF op = some f) : OpR X (inplaceOp op) (rO X.K f) := by
  cases op <;> first | cases h | skip
  · exact o_iadd
  · exact o_isub
theorem cmp_ok {op : CmpOp} {f : D → D → Store → R D} (hu : X.A.units + 200 < cLine) (h : cmpF op = some f) : OpR X (compareOp op) (rO X.K f) := by
  cases op <;> cases h
  · exact o_eq (by omega)
  · exact o_ne (by omega)
  · exact o_lt
  · exact o_le
  · exact o_gt
  · exact o_ge
  · exact o_is
  · exact o_isnot
  · exact o_in (by omega)
  · exact o_notin (by omega)
theorem const_ok {c : Const} {j : Nat} {pos : Pos} {d : D} (h : constD c = some d) : PE X (.Constant c j pos) (tE X.K (eC d)) := by
  cases c <;> cases h
  · exact s_c pe_non fun m H => rfl
  · exact s_c pe_bl fun m H => rfl
  · exact s_c pe_int fun m H => rfl
  · rename_i s
    refine s_c pe_str fun m H => ?_
    show V.str s = V.str ⟨s.cps.toList.toArray⟩
    rw [Array.toArray_toList]
theorem name_ok (G : XG X g k) {x : Str} {pos : Pos} {f : Ev} (h : cName g x = some f) : PE X (.Name x pos) (tE X.K f) := by
  unfold cName at h
  split at h
  · cases h
  · rename_i ho
    have ho := odd_no (by simpa using ho)
    split at h
    · rename_i hg
      obtain ⟨d, h1, rfl⟩ := map_some h
      obtain ⟨v, u, g1, g2, g3⟩ := G.con x d h1
      exact s_c (pe_glob (G.gl hg) g1 g2 ho.1) g3
    · split at h
      · rename_i hv
        obtain ⟨i, h1, rfl⟩ := map_some h
        refine s_var (by rw [G.N]; exact ix_some h1) ?_ ho.1 ho.2
        rw [Bool.or_eq_true, Bool.or_eq_true] at hv
        rcases hv with (hv | hv) | hv
        · exact .inl (G.lo hv)
        · exact .inr (.inl (G.ce hv))
        · exact .inr (.inr (G.fr hv))
      · cases h
theorem blt_ok (hc : X.calm = true) {x : Str} {p : String × Bool × String × FSem} (h : bltF x = some p) : (p.2.1 = true ∧ bootBuiltins x = some (.type p.2.2.1) ∧ CallR X (.type p.2.2.1) (rB X.K p.2.2.2) ∨ p.2.1 = false ∧ bootBuiltins x = some (.builtin p.2.2.1) ∧ CallR X (.builtin p.2.2.1) (rB X.K p.2.2.2)) ∧ x ≠ "__name__" ∧ (x == ("__debug__" : Str)) = false := by
  have h1 := List.find?_some h
  have h2 := List.mem_of_find?_eq_some h
  have e : x = Str.ofString p.1 := (beq_iff_eq.mp h1).symm
  subst e
  simp only [bltTab, List.mem_cons, List.mem_nil_iff, or_false] at h2
  rcases h2 with rfl | rfl | rfl | rfl | rfl | rfl | rfl | rfl | rfl | rfl | rfl
  · exact ⟨.inr ⟨rfl, by first | rfl | kernel_rfl, c_len⟩, by decide +kernel, by decide +kernel⟩
  · exact ⟨.inl ⟨rfl, by first | rfl | kernel_rfl, c_list⟩, by decide +kernel, by decide +kernel⟩
  · exact ⟨.inl ⟨rfl, by first | rfl | kernel_rfl, c_tuple⟩, by decide +kernel, by decide +kernel⟩
  · exact ⟨.inr ⟨rfl, by first | rfl | kernel_rfl, c_sum hc⟩, by decide +kernel, by decide +kernel⟩
  · exact ⟨.inr ⟨rfl, by first | rfl | kernel_rfl, c_all hc⟩, by decide +kernel, by decide +kernel⟩
  · exact ⟨.inr ⟨rfl, by first | rfl | kernel_rfl, c_any hc⟩, by decide +kernel, by decide +kernel⟩
  · exact ⟨.inl ⟨rfl, by first | rfl | kernel_rfl, c_int⟩, by decide +kernel, by decide +kernel⟩
  · exact ⟨.inr ⟨rfl, by first | rfl | kernel_rfl, c_abs⟩, by decide +kernel, by decide +kernel⟩
  · exact ⟨.inr ⟨rfl, by first | rfl | kernel_rfl, c_min hc⟩, by decide +kernel, by decide +kernel⟩
  · exact ⟨.inr ⟨rfl, by first | rfl | kernel_rfl, c_max hc⟩, by decide +kernel, by decide +kernel⟩
  · exact ⟨.inr ⟨rfl, by first | rfl | kernel_rfl, c_sorted⟩, by decide +kernel, by decide +kernel⟩
theorem meth_ok {name : Str} (T : String) (f : MSem) (h : methF name T = some f) : MdOk X name T f := by
  unfold methF at h
  obtain ⟨p, hp, rfl⟩ := map_some h
  have h1 := List.find?_some hp
  have h2 := List.mem_of_find?_eq_some hp
  rw [Bool.and_eq_true] at h1
  have e : name = Str.ofString p.1 := (beq_iff_eq.mp h1.1).symm
  have e2 : T = p.2.1 := (beq_iff_eq.mp h1.2).symm
  subst e e2
  simp only [methTab, List.mem_cons, List.mem_nil_iff, or_false] at h2
  rcases h2 with rfl | rfl | rfl | rfl | rfl | rfl | rfl
  · exact md_append
  · exact md_extend
  · exact md_pop
  · exact md_insert
  · exact md_countS
  · exact md_countL
  · exact md_join
theorem blk_ok {N : List Str} {sc scope : Scope} {own : List (Str × Nat)} (h : blkB N sc scope own = true) : BlkOk N sc scope own := by
  unfold blkB at h
  simp only [Bool.and_eq_true, List.all_eq_true] at h
  obtain ⟨⟨⟨⟨h1, h2⟩, h3⟩, h4⟩, h5⟩ := h
  refine ⟨of_decide_eq_true h1, fun y hy => beq_iff_eq.mp (h2 y hy), fun p hp => beq_iff_eq.mp (h3 p hp), fun y hy e => ?_, fun y hy e => ?_⟩
  · have := h4 y hy
    rw [e] at this
    simpa using this
  · have := h5 y hy
    rcases e with e | e <;> rw [e] at this <;> simpa using this
theorem rel_eq {scope : Scope} {env : PySem.Env} : relabel scope env = relS scope env.scope := rfl
theorem XG.inner (G : XG X g k) (s : Shared) (H : Hp) (scope : Scope) (hk : scope.kind = .function) (C : Addr) (cl : List (Str × Addr)) (fp : List Addr) : XG (X.blk s H scope (compEnvC scope cl C X.env) fp) (g.inner scope) k where
  N := G.N
  nd := G.nd
  sc := by
    show relabel scope X.env = relS scope g.sc
    rw [rel_eq, G.sc]
  fk := hk
  calm := G.calm
  room := G.room
  fnc := fun x h => h
  fn := G.fn
  con := G.con
  blt := G.blt
end
end T

set_option Elab.async false
set_option linter.all false
set_option maxRecDepth 100000
set_option maxHeartbeats 2000000
namespace T
open PySem PySem.Spec PyProof.Rows L2
/-! ### targets -/
/-- what a target's reading must do -/
def SimG (K : PySem.W.Frag) (t : Tg) (sl : List Nat) (weak : Bool) (gg : TG) : Prop :=
  ∀ (m : List Addr) (S : Store) (H : Hp) (ρ ρ' : Env) (σ : L2.St) (d : T.D) (v : V) (Q : L2.St → Hp → Prop), Rel K m S H → RS K m H ρ σ → (if weak = true then RDw K m H d v else RD K m H d v) → t d ρ S = some ρ' → (∀ σ', RS K m H ρ' σ' → OffBy sl σ σ' → Q σ' H) → gg v σ H Q
def SimGs (K : PySem.W.Frag) (t : Tgs) (sl : List Nat) (gg : TGs) : Prop :=
  ∀ (m : List Addr) (S : Store) (H : Hp) (ρ ρ' : Env) (σ : L2.St) (ds : List T.D) (vs : List V) (Q : L2.St → Hp → Prop), Rel K m S H → RS K m H ρ σ → RDs K m H ds vs → t ds ρ S = some ρ' → (∀ σ', RS K m H ρ' σ' → OffBy sl σ σ' → Q σ' H) → gg vs σ H Q
theorem cG_ok {g : Ctx} {K : PySem.W.Frag} : ∀ n, (∀ {weak : Bool} {e : Expr} {p : Tg × List Nat}, cG g n weak e = some p → ∃ gg : TG, (∀ (X : Cx) (k : Nat), XG X g k → X.K = K → PG X e gg) ∧ SimG K p.1 p.2 weak gg) ∧
    (∀ {es : List Expr} {p : Tgs × List Nat}, es.all notStar = true → cGs g n es = some p → (∃ gg : TGs, (∀ (X : Cx) (k : Nat), XG X g k → X.K = K → PGs X es gg) ∧ SimGs K p.1 p.2 gg) ∧ ∀ ds ρ S ρ', p.1 ds ρ S = some ρ' → ds.length = es.length)
  | 0 => ⟨fun h => by simp [cG] at h, fun _ h => by simp [cGs] at h⟩
  | n + 1 => by
    obtain ⟨h1, h2⟩ := cG_ok (g := g) (K := K) n
    refine ⟨fun {weak e p} h => ?_, fun {es p} hs h => ?_⟩
    · cases e <;> first | (simp [cG] at h; done) | skip
      · rename_i x pos
        simp only [cG] at h
        split at h
        · rename_i hc
          rw [Bool.and_eq_true] at hc
          obtain ⟨i, hi, rfl⟩ := map_some h
          have hw : weak = false := by simpa using hc.1
          subst hw
          refine ⟨gName i, fun X k G hK => ?_, fun m S H ρ ρ' σ d v Q r rs q h k => ?_⟩
          · obtain ⟨l1, l2⟩ := G.st hc.2
            exact pg_name (by rw [G.N]; exact G.nd) (by rw [G.N]; exact ix_some hi) l1 l2
          · have h : tgN i d ρ S = some ρ' := h
            unfold tgN at h
            split at h
            · cases h
              exact k _ (rs.set i (by simpa using q)) ⟨by simp, fun j hj => List.getElem?_set_ne fun e => hj (by simp [e])⟩
            · cases h
        · cases h
      · rename_i es j pos
        simp only [cG] at h
        split at h
        · rename_i hs
          obtain ⟨q, hq, rfl⟩ := map_some h
          obtain ⟨⟨gg, a1, kg⟩, a2⟩ := h2 hs hq
          refine ⟨gTup K es.length gg, fun X k G hK => ?_, fun m S H ρ ρ' σ d v Q r rs q hh kk => ?_⟩
          · subst hK
            exact pg_tup G.calm (a1 X k G rfl) (asg_len hs) (asg_find hs)
          · have q' : RDw K m H d v := by
              cases weak with
              | true => simpa using q
              | false => exact .inl (by simpa using q)
            cases d with
            | tup ds =>
              obtain ⟨a, vs, rfl, h2, h3⟩ := q'.tup
              exact ⟨a, vs, rfl, h2, by rw [h3.length]; exact a2 _ _ _ _ hh, kg m S H ρ ρ' σ ds vs Q r rs h3 hh kk⟩
            | _ => cases hh
        · cases h
    · cases es with
      | nil =>
        simp only [cGs] at h
        cases h
        refine ⟨⟨gNil, fun X k G hK => pgs_nil, fun m S H ρ ρ' σ ds vs Q r rs q h k => ?_⟩, fun ds ρ S ρ' e => ?_⟩
        · cases ds with
          | nil => cases q; cases h; exact ⟨rfl, k σ rs ⟨rfl, fun _ _ => rfl⟩⟩
          | cons _ _ => cases h
        · cases ds with
          | nil => rfl
          | cons _ _ => cases e
      | cons e r =>
        simp only [cGs] at h
        rw [List.all_cons, Bool.and_eq_true] at hs
        obtain ⟨x, y, e1, e2, rfl⟩ := o2_some h
        obtain ⟨⟨gs, b1, kgs⟩, a2⟩ := h2 hs.2 e2
        obtain ⟨gg, b2, kg⟩ := h1 e1
        refine ⟨⟨gCons gg gs, fun X k G hK => pgs_cons (b2 X k G hK) (b1 X k G hK) (by rw [notStar_asg hs.1]; rfl), fun m S H ρ ρ' σ ds vs Q r rs q h k => ?_⟩, fun ds ρ S ρ' e => ?_⟩
        · cases ds with
          | nil => cases h
          | cons d ds =>
            obtain ⟨v, vr, rfl, q1, q2⟩ := q
            have h' : (match x.1 d ρ S with | some ρ1 => y.1 ds ρ1 S | none => none) = some ρ' := h
            cases e1 : x.1 d ρ S with
            | none => rw [e1] at h'; cases h'
            | some ρ1 =>
              rw [e1] at h'
              exact ⟨v, vr, rfl, kg m S H ρ ρ1 σ d v _ r rs (by simpa using q1) e1 fun σ1 rs1 l1 => kgs m S H ρ1 ρ' σ1 ds vr Q r rs1 q2 h' fun σ2 rs2 l2 => k σ2 rs2 ⟨l2.1.trans l1.1, fun j hj => (l2.2 j fun z => hj (List.mem_append_right _ z)).trans (l1.2 j fun z => hj (List.mem_append_left _ z))⟩⟩
        · cases ds with
          | nil => cases e
          | cons d ds =>
            have e' : (match x.1 d ρ S with | some ρ1 => y.1 ds ρ1 S | none => none) = some ρ' := e
            split at e'
            · rw [List.length_cons, List.length_cons, a2 _ _ _ _ e']
            · cases e'
theorem cG_GS {X : Cx} {g : Ctx} {k n : Nat} {weak : Bool} {e : Expr} {p : Tg × List Nat} (G : XG X g k) (h : cG g n weak e = some p) : GS X e p.1 p.2 weak := by
  obtain ⟨gg, h1, h2⟩ := (cG_ok (K := X.K) n).1 h
  exact ⟨gg, h1 X k G rfl, h2⟩
structure OkN (n : Nat) : Prop where
  E : ∀ {X : Cx} {g : Ctx} {k : Nat} {e : Expr} {f : Ev}, XG X g k → cE n g e = some f → PE X e (tE X.K f)
  F : ∀ {X : Cx} {g : Ctx} {k : Nat} {x : Str} {as : List Expr} {f : Ev} {p pos : Pos}, XG X g k → cF n g x as = some f → PE X (.Call (.Name x p) as [] pos) (tE X.K f)
  Lc : ∀ {X : Cx} {g : Ctx} {k : Nat} {elt tg it : Expr} {ifs : List Expr} {scope : Scope} {f : Ev}, XG X g k → notSet it = true → blkB g.N g.sc scope (ownS g scope) = true → cLc n g elt tg it ifs scope = some f →
    (∀ pos, PE X (.ListComp elt [⟨tg, it, ifs, 0⟩] scope pos) (tE X.K f)) ∧ ∀ (i : Nat) (y : Str) (py pos spos : Pos), X.N[i]? = some y → X.env.scope.names.lookup y = some .local → swapsWith (.ListComp elt [⟨tg, it, ifs, 0⟩] scope pos) (some (.Name y py)) spos.line X.env = pure true →
      PS X (.Assign [.Name y py] (.ListComp elt [⟨tg, it, ifs, 0⟩] scope pos) spos) (tS X.K (sAsg (tgN i) f))
  Ifs : ∀ {X : Cx} {g : Ctx} {k : Nat} {ifs : List Expr} {f : TEv}, XG X g k → cIfs n g ifs = some f → PTs X ifs (tT X.K f)
  T : ∀ {X : Cx} {g : Ctx} {k : Nat} {e : Expr} {f : TEv}, XG X g k → cT n g e = some f → PT X e (tT X.K f)
  W : ∀ {X : Cx} {g : Ctx} {k : Nat} {op : PySem.BoolOp} {vs : List Expr} {f : TEv} {pos : Pos}, XG X g k → cW n g op vs = some f → PW X (.BoolOp op vs pos) (tT X.K f)
  V : ∀ {X : Cx} {g : Ctx} {k : Nat} {op : PySem.BoolOp} {vs : List Expr} {f : Ev} {pos : Pos}, XG X g k → cV n g op vs = some f → PE X (.BoolOp op vs pos) (tE X.K f)
  L : ∀ {X : Cx} {g : Ctx} {k : Nat} {es : List Expr} {f : LEv}, XG X g k → cL n g es = some f → PA X es (tL X.K f) ∧ es.all notStar = true
  O : ∀ {X : Cx} {g : Ctx} {k : Nat} {o : Option Expr} {f : OEv}, XG X g k → cO n g o = some f → PO X o (tO X.K f)
  I : ∀ {X : Cx} {g : Ctx} {k : Nat} {tg e : Expr} {p : IEv × Bool}, XG X g k → cI n g tg e = some p → PI X tg e (tI X.K p.1 p.2)
theorem tYes_ok {X : Cx} : PTs X [] (tT X.K T.tYes) := ⟨fun pins s σ H Q I ⟨m, S, ρ, r, rs, q⟩ => pts_nil.run pins s σ H Q I (q m H (Step.refl m H) r)⟩
section
variable {n : Nat} (ih : OkN n) {X : Cx} {g : Ctx} {k : Nat} (G : XG X g k)
include ih G
theorem st_E {e : Expr} {f : Ev} (h : cE (n + 1) g e = some f) : PE X e (tE X.K f) := by
  unfold cE at h
  split at h
  · exact name_ok G h
  · obtain ⟨d, hd, rfl⟩ := map_some h
    exact const_ok hd
  · obtain ⟨o, x, y, e1, e2, e3, rfl⟩ := o3_some h
    exact s_e2 (bin_ok e1) (ih.E G e2) (ih.E G e3)
  · obtain ⟨x, e1, rfl⟩ := map_some h
    exact s_un o_neg (ih.E G e1)
  · obtain ⟨x, e1, rfl⟩ := map_some h
    exact s_notV (ih.E G e1)
  · exact ih.V G h
  · split at h
    · rename_i hb
      obtain ⟨o, x, y, e1, e2, e3, rfl⟩ := o3_some h
      exact s_cmp (cmp_ok G.units e1) (ih.E G e2) (ih.E G e3) (notSet_mark hb)
    · cases h
  · split at h
    · rename_i hb
      obtain ⟨p, q, e1, e2, rfl⟩ := o2_some h
      obtain ⟨o, o', f1, f2, rfl⟩ := o2_some e1
      obtain ⟨x, y, z, f3, f4, f5, rfl⟩ := o3_some e2
      exact s_chain (cmp_ok G.units f1) (cmp_ok G.units f2) (ih.E G f3) (ih.E G f4) (ih.E G f5) (notSet_last hb)
    · cases h
  · obtain ⟨c, x, y, e1, e2, e3, rfl⟩ := o3_some h
    exact s_if (ih.T G e1) (ih.E G e2) (ih.E G e3)
  · obtain ⟨l, e1, rfl⟩ := map_some h
    exact s_tup (ih.L G e1).1
  · obtain ⟨l, e1, rfl⟩ := map_some h
    exact s_lst (ih.L G e1).1
  · obtain ⟨x, y, z, e1, e2, e3, rfl⟩ := o3_some h
    exact s_cut (ih.E G e1) (ih.O G e2) (ih.O G e3)
  · split at h
    · cases h
    · rename_i hs
      obtain ⟨x, y, e1, e2, rfl⟩ := o2_some h
      exact s_ix (ih.E G e1) (ih.E G e2) (plain_ix (by simpa using hs))
  · exact ih.F G h
  · split at h
    · rename_i o name apos as pos hc
      rw [Bool.and_eq_true, Bool.and_eq_true] at hc
      obtain ⟨x, y, e1, e2, rfl⟩ := o2_some h
      obtain ⟨l1, l2⟩ := ih.L G e2
      have hlt := of_decide_eq_true hc.2
      cases as with
      | nil =>
        have hy : y = lNil := by
          cases n with
          | zero => simp [cL] at e2
          | succ n => simp [cL] at e2; exact e2.symm
        subst hy
        exact s_meth0 (fun T g h => meth_ok T g h) (ih.E G e1) (base_ok hc.1.2) hc.1.1
      | cons a r =>
        rw [List.all_cons, Bool.and_eq_true] at l2
        refine s_meth (fun T g h => meth_ok T g h) (ih.E G e1) l1 (base_ok hc.1.2) ?_ hc.1.1 (notStar_each l2.1) (notStar_any l2.2)
        rw [notStar_all (es := a :: r) (by rw [List.all_cons, Bool.and_eq_true]; exact l2)]
        show (true && true && decide ((a :: r).length + 0 + 0 < 30)) = true
        simp only [Nat.add_zero, decide_eq_true hlt]
        rfl
    · cases h
  · split at h
    · rename_i elt tg it ifs a scope pos hc
      rw [Bool.and_eq_true, Bool.and_eq_true] at hc
      have ha : a = 0 := by simpa using hc.1.1
      subst ha
      exact (ih.Lc G hc.1.2 hc.2 h).1 _
    · cases h
  · cases h
theorem list_range {as bs : List Expr} (h : listRange as = some bs) : ∃ p pos, as = [.Call (.Name "range" p) bs [] pos] := by
  unfold listRange at h
  split at h
  · split at h
    · rename_i hr
      cases h
      rw [beq_iff_eq.mp hr]
      exact ⟨_, _, rfl⟩
    · cases h
  · cases h
theorem st_F {x : Str} {as : List Expr} {f : Ev} {p pos : Pos} (h : cF (n + 1) g x as = some f) : PE X (.Call (.Name x p) as [] pos) (tE X.K f) := by
  unfold cF at h
  split at h
  · rename_i hx
    rw [Bool.and_eq_true] at hx
    have ho := odd_no (x := x) (by simpa using hx.2)
    have hg := G.gl hx.1
    split at h
    · rename_i q hq
      obtain ⟨l, e1, rfl⟩ := map_some h
      obtain ⟨l1, l2⟩ := ih.L G e1
      obtain ⟨a, fd, ps, j, F, hj, hm, hk, hb⟩ := G.fn x q.1 q.2 hq
      cases as with
      | nil =>
        have hy : l = lNil := by
          cases n with
          | zero => simp [cL] at e1
          | succ n => simp [cL] at e1; exact e1.symm
        subst hy
        exact s_call0 F (G.room.mono hj) hg hm hk hb (E := E0) pass0 ho.1
      | cons e r =>
        rw [List.all_cons, Bool.and_eq_true] at l2
        exact s_call F (G.room.mono hj) hg hm hk hb (E := E0) pass0 l1 ho.1 (notStar_each l2.1) (notStar_any l2.2)
    · split at h
      · rename_i hbl
        have hm := G.blt x hbl
        split at h
        · rename_i hi
          have hi := beq_iff_eq.mp hi
          subst hi
          split at h
          · rename_i e c pc
            split at h
            · rename_i hc
              rw [Bool.and_eq_true] at hc
              obtain ⟨t, f', e1, e2, rfl⟩ := o2_some h
              obtain ⟨g1, g2, _⟩ := G.bl hc.2
              exact s_isi e1 hg hm g1 g2 (ih.E G e2) (notStar_each hc.1) (notStar_each rfl) (notStar_any rfl)
            · cases h
          · rename_i e c pc c2 pc2 kk pt
            split at h
            · rename_i hc
              rw [Bool.and_eq_true, Bool.and_eq_true] at hc
              obtain ⟨t, f', e1, e2, rfl⟩ := o2_some h
              obtain ⟨t1, t2, e3, e4, rfl⟩ := o2_some e1
              obtain ⟨g1, g2, _⟩ := G.bl hc.1.2
              obtain ⟨g3, g4, _⟩ := G.bl hc.2
              exact s_isi2 e3 e4 hg hm g1 g2 g3 g4 (ih.E G e2) (notStar_each hc.1.1) (notStar_each rfl) (notStar_any rfl) (notStar_each rfl) (notStar_each rfl)
            · cases h
          · cases h
        · split at h
          · rename_i bs hbs
            obtain ⟨p2, pos2, rfl⟩ := list_range ih G hbs
            split at h
            · rename_i hl
              rw [Bool.and_eq_true] at hl
              have hl1 := beq_iff_eq.mp hl.1
              subst hl1
              obtain ⟨g1, g2, _⟩ := G.bl hl.2
              split at h
              · rename_i a
                split at h
                · rename_i hs
                  obtain ⟨f', e1, rfl⟩ := map_some h
                  exact s_listRg1 G.calm hg hm g1 g2 (ih.E G e1) (notStar_each hs) (notStar_each rfl)
                · cases h
              · rename_i a b
                split at h
                · rename_i hs
                  rw [Bool.and_eq_true] at hs
                  obtain ⟨f', f'', e1, e2, rfl⟩ := o2_some h
                  exact s_listRg2 G.calm hg hm g1 g2 (ih.E G e1) (ih.E G e2) (notStar_each hs.1) (notStar_each hs.2) (notStar_any (by rw [List.all_cons, hs.2]; rfl)) (notStar_each rfl)
                · cases h
              · cases h
            · cases h
          · split at h
            · cases h
            · obtain ⟨q, l, e1, e2, rfl⟩ := o2_some h
              obtain ⟨l1, l2⟩ := ih.L G e2
              obtain ⟨hb, hn, hd⟩ := blt_ok (X := X) G.calm e1
              cases as with
              | nil => rename_i hne; exact absurd rfl hne
              | cons e r =>
                rw [List.all_cons, Bool.and_eq_true] at l2
                rcases hb with ⟨_, b1, b2⟩ | ⟨_, b1, b2⟩
                · exact s_callTy b2 hg hm b1 l1 hn hd (notStar_each l2.1) (notStar_any l2.2)
                · exact s_callB b2 hg hm b1 l1 hn hd (notStar_each l2.1) (notStar_any l2.2)
      · cases h
  · cases h
theorem st_Lc {elt tg it : Expr} {ifs : List Expr} {scope : Scope} {f : Ev} (hs : notSet it = true) (hb : blkB g.N g.sc scope (ownS g scope) = true) (h : cLc (n + 1) g elt tg it ifs scope = some f) :
    (∀ pos, PE X (.ListComp elt [⟨tg, it, ifs, 0⟩] scope pos) (tE X.K f)) ∧ ∀ (i : Nat) (y : Str) (py pos spos : Pos), X.N[i]? = some y → X.env.scope.names.lookup y = some .local → swapsWith (.ListComp elt [⟨tg, it, ifs, 0⟩] scope pos) (some (.Name y py)) spos.line X.env = pure true →
      PS X (.Assign [.Name y py] (.ListComp elt [⟨tg, it, ifs, 0⟩] scope pos) spos) (tS X.K (sAsg (tgN i) f)) := by
  unfold cLc at h
  split at h
  · rename_i J weak hJ
    split at h
    · rename_i t sl ht
      split at h
      · rename_i hsl
        obtain ⟨c, f', e1, e2, rfl⟩ := o2_some h
        have bk := blk_ok hb
        have ok : BlkOk X.N X.env.scope scope (ownS g scope) := by rw [G.N, G.sc]; exact bk
        have inn := fun (s : Shared) (H : Hp) (C : Addr) (cl : List (Str × Addr)) (fp : List Addr) => G.inner s H scope bk.kind C cl fp
        have hN : X.N.Nodup := by rw [G.N]; exact G.nd
        have hg : ∃ gg : TG, (∀ (s : Shared) (H : Hp) (C : Addr) (cl : List (Str × Addr)) (fp : List Addr), PG (X.blk s H scope (compEnvC scope cl C X.env) fp) tg gg) ∧
            ∀ (m : List Addr) (S : Store) (H : Hp) (ρ ρ' : Env) (σ : L2.St) (d : T.D) (v : V) (Q : L2.St → Hp → Prop), Rel X.K m S H → RS X.K m H ρ σ → (if weak = true then RDw X.K m H d v else RD X.K m H d v) → t d ρ S = some ρ' → (∀ σ', RS X.K m H ρ' σ' → OffBy sl σ σ' → Q σ' H) → gg v σ H Q := by
          obtain ⟨gg, h1, h2⟩ := (cG_ok (K := X.K) n).1 ht
          exact ⟨gg, fun s H C cl fp => h1 _ k (inn s H C cl fp) rfl, h2⟩
        have hsl' : ∀ i ∈ sl, i ∈ (ownS g scope).map (·.2) := fun i hi => by
          have := List.all_eq_true.mp hsl i hi
          simpa using this
        exact ⟨fun pos => s_lc G.calm hN (ih.I G hJ) ok hg hsl' (fun s H C cl fp => ih.Ifs (inn s H C cl fp) e1) (fun s H C cl fp => ih.E (inn s H C cl fp) e2) (notSet_fold hs),
          fun i y py pos spos hy hyl hsw => s_setLc G.calm hN hy hyl hsw (ih.I G hJ) ok hg hsl' (fun s H C cl fp => ih.Ifs (inn s H C cl fp) e1) (fun s H C cl fp => ih.E (inn s H C cl fp) e2) (notSet_fold hs)⟩
      · cases h
    · cases h
  · cases h
theorem st_Ifs {ifs : List Expr} {f : TEv} (h : cIfs (n + 1) g ifs = some f) : PTs X ifs (tT X.K f) := by
  unfold cIfs at h
  split at h
  · cases h; exact tYes_ok
  · exact pts_one (ih.T G h)
  · cases h
theorem st_T {e : Expr} {f : TEv} (h : cT (n + 1) g e = some f) : PT X e (tT X.K f) := by
  unfold cT at h
  split at h
  · obtain ⟨x, e1, rfl⟩ := map_some h
    exact s_notT (ih.T G e1)
  · exact (ih.W G h).pt
  · split at h
    · rename_i hb
      obtain ⟨o, x, y, e1, e2, e3, rfl⟩ := o3_some h
      exact s_cmpT (cmp_ok G.units e1) (ih.E G e2) (ih.E G e3) (notSet_mark hb)
    · cases h
  · split at h
    · rename_i hb
      obtain ⟨p, q, e1, e2, rfl⟩ := o2_some h
      obtain ⟨o, o', f1, f2, rfl⟩ := o2_some e1
      obtain ⟨x, y, z, f3, f4, f5, rfl⟩ := o3_some e2
      exact s_chainT (cmp_ok G.units f1) (cmp_ok G.units f2) (ih.E G f3) (ih.E G f4) (ih.E G f5) (notSet_last hb)
    · cases h
  · split at h
    · rename_i hp
      obtain ⟨x, e1, rfl⟩ := map_some h
      exact s_truth (ih.E G e1) (plain_truth hp)
    · cases h
theorem st_W {op : PySem.BoolOp} {vs : List Expr} {f : TEv} {pos : Pos} (h : cW (n + 1) g op vs = some f) : PW X (.BoolOp op vs pos) (tT X.K f) := by
  unfold cW at h
  split at h
  · cases h
  · exact s_one (ih.T G h)
  · rename_i a r hne
    obtain ⟨x, y, e1, e2, rfl⟩ := o2_some h
    cases r with
    | nil => exact absurd rfl hne
    | cons b r =>
      cases op with
      | And => exact s_andT (ih.T G e1) (ih.W G e2)
      | Or => exact s_orT (ih.T G e1) (ih.W G e2)
theorem st_V {op : PySem.BoolOp} {vs : List Expr} {f : Ev} {pos : Pos} (h : cV (n + 1) g op vs = some f) : PE X (.BoolOp op vs pos) (tE X.K f) := by
  unfold cV at h
  split at h
  · cases h
  · exact s_oneV (ih.E G h)
  · rename_i a r hne
    obtain ⟨x, y, e1, e2, rfl⟩ := o2_some h
    cases r with
    | nil => exact absurd rfl hne
    | cons b r =>
      cases op with
      | And => exact s_andV (ih.E G e1) (ih.V G e2)
      | Or => exact s_orV (ih.E G e1) (ih.V G e2)
theorem st_L {es : List Expr} {f : LEv} (h : cL (n + 1) g es = some f) : PA X es (tL X.K f) ∧ es.all notStar = true := by
  unfold cL at h
  split at h
  · cases h; exact ⟨s_nil, rfl⟩
  · split at h
    · rename_i hs
      obtain ⟨x, y, e1, e2, rfl⟩ := o2_some h
      obtain ⟨l1, l2⟩ := ih.L G e2
      exact ⟨s_cons (ih.E G e1) l1 (notStar_each hs), by rw [List.all_cons, hs, l2]; rfl⟩
    · cases h
theorem st_O {o : Option Expr} {f : OEv} (h : cO (n + 1) g o = some f) : PO X o (tO X.K f) := by
  unfold cO at h
  split at h
  · cases h; exact s_oNone
  · obtain ⟨x, e1, rfl⟩ := map_some h
    exact s_oSome (ih.E G e1)
theorem st_I {tg e : Expr} {p : IEv × Bool} (h : cI (n + 1) g tg e = some p) : PI X tg e (tI X.K p.1 p.2) := by
  unfold cI at h
  split at h
  · rename_i x px as kws pos
    split at h
    · rename_i hx
      rw [Bool.and_eq_true] at hx
      obtain ⟨hg, hm, _⟩ := G.bl hx.1
      split at h
      · rename_i hr
        have hr := beq_iff_eq.mp hr
        subst hr
        split at h
        · obtain ⟨l, e1, rfl⟩ := map_some h
          obtain ⟨l1, l2⟩ := ih.L G e1
          rw [List.all_cons, Bool.and_eq_true] at l2
          exact i_rng1 hg hm l1 (notStar_each l2.1)
        · obtain ⟨l, e1, rfl⟩ := map_some h
          obtain ⟨l1, l2⟩ := ih.L G e1
          rw [List.all_cons, List.all_cons, Bool.and_eq_true, Bool.and_eq_true] at l2
          exact i_rng2 hg hm l1 (by rw [notStar_each l2.1, notStar_each l2.2.1]; rfl) (notStar_each l2.2.1)
        · cases h
      · rename_i hnr
        split at h
        · cases h
        · rename_i htg
          cases tg <;> first | exact absurd rfl htg | skip
          split at h
          · rename_i hz
            have hz := beq_iff_eq.mp hz
            subst hz
            split at h
            · obtain ⟨l, e1, rfl⟩ := map_some h
              obtain ⟨l1, l2⟩ := ih.L G e1
              rw [List.all_cons, Bool.and_eq_true] at l2
              exact i_zip hg hm l1 (notStar_each l2.1) (notStar_any l2.2)
            · split at h
              · rename_i hk
                have hk := beq_iff_eq.mp hk
                subst hk
                obtain ⟨l, e1, rfl⟩ := map_some h
                obtain ⟨l1, l2⟩ := ih.L G e1
                have l2' := l2
                rw [List.all_cons, Bool.and_eq_true] at l2
                exact i_zipS hg hm l1 (by rw [notStar_each l2.1]; rfl) (notStar_any l2')
              · cases h
            · cases h
          · rename_i hz
            have he : x = ("enumerate" : Str) := by
              have h3 := hx.2
              rw [Bool.or_eq_true, Bool.or_eq_true] at h3
              rcases h3 with (h3 | h3) | h3
              · exact absurd h3 hnr
              · exact absurd h3 hz
              · exact beq_iff_eq.mp h3
            subst he
            split at h
            · obtain ⟨l, e1, rfl⟩ := map_some h
              obtain ⟨l1, l2⟩ := ih.L G e1
              rw [List.all_cons, Bool.and_eq_true] at l2
              exact i_enum1 hg hm l1 (notStar_each l2.1)
            · obtain ⟨l, e1, rfl⟩ := map_some h
              obtain ⟨l1, l2⟩ := ih.L G e1
              rw [List.all_cons, Bool.and_eq_true] at l2
              exact i_enum2 hg hm l1 (notStar_each l2.1) (notStar_any l2.2)
            · cases h
    · obtain ⟨f, e1, rfl⟩ := map_some h
      exact i_seq (ih.E G e1)
  · obtain ⟨f, e1, rfl⟩ := map_some h
    exact i_seq (ih.E G e1)
end
theorem okN : ∀ n, OkN n
  | 0 => ⟨fun _ h => by simp [cE] at h, fun _ h => by simp [cF] at h, fun _ _ _ h => by simp [cLc] at h, fun _ h => by simp [cIfs] at h, fun _ h => by simp [cT] at h, fun _ h => by simp [cW] at h, fun _ h => by simp [cV] at h, fun _ h => by simp [cL] at h, fun _ h => by simp [cO] at h, fun _ h => by simp [cI] at h⟩
  | n + 1 => ⟨fun G h => st_E (okN n) G h, fun G h => st_F (okN n) G h, fun G hs hb h => st_Lc (okN n) G hs hb h, fun G h => st_Ifs (okN n) G h, fun G h => st_T (okN n) G h, fun G h => st_W (okN n) G h, fun G h => st_V (okN n) G h, fun G h => st_L (okN n) G h, fun G h => st_O (okN n) G h, fun G h => st_I (okN n) G h⟩
end T

set_option Elab.async false
set_option linter.all false
set_option maxRecDepth 100000
set_option maxHeartbeats 2000000
namespace T
open PySem PySem.Spec PyProof.Rows L2
structure OkS (n : Nat) : Prop where
  S : ∀ {X : Cx} {g : Ctx} {k : Nat} {s : Stmt} {f : SEv}, XG X g k → PassesOwn (model X.prog X.w) X.A X.env X.xe → cS n g s = some f → PS X s (tS X.K f)
  Ss : ∀ {X : Cx} {g : Ctx} {k : Nat} {s : List Stmt} {f : SEv}, XG X g k → PassesOwn (model X.prog X.w) X.A X.env X.xe → cSs n g s = some f → PSs X s (tS X.K f)
theorem sole_tup {tg e : Expr} {l : Nat} {env : PySem.Env} (h : (match tg with | .Name .. => false | _ => true) = true) : swapsWithSole [tg] e l env = pure false := by
  cases tg <;> first | exact Bool.noConfusion h | (cases e <;> rfl)
theorem bnot {b : Bool} (h : (!b) = true) : b = false := by cases b <;> first | rfl | cases h
theorem swap_noT {env : PySem.Env} {tg e : Expr} (h : notTup e = true) : swappedStores [tg] e env = pure none := swap_no (by cases e <;> first | rfl | exact Bool.noConfusion h)
theorem fun_block {X : Cx} {g : Ctx} {k : Nat} (G : XG X g k) : X.env.blockKind = .function := by
  unfold PySem.Env.blockKind
  rw [G.sc, G.fk]
  rfl
section
variable {n : Nat} (ihE : OkN n) (ih : OkS n) {X : Cx} {g : Ctx} {k : Nat} (G : XG X g k) (P : PassesOwn (model X.prog X.w) X.A X.env X.xe)
include ihE ih G P
theorem ss_Ss {s : List Stmt} {f : SEv} (h : cSs (n + 1) g s = some f) : PSs X s (tS X.K f) := by
  unfold cSs at h
  split at h
  · cases h; exact s_nilS
  · obtain ⟨x, y, e1, e2, rfl⟩ := o2_some h
    exact s_seq (ih.S G P e1) (ih.Ss G P e2)
theorem ss_name {x : Str} {px pos : Pos} {e : Expr} {f : SEv} (h : (if g.st x = true then o2 (g.ix x) (cE n g e) fun i f => sAsg (tgN i) f else none) = some f) : PS X (.Assign [.Name x px] e pos) (tS X.K f) := by
  split at h
  · rename_i hst
    obtain ⟨i, fe, e1, e2, rfl⟩ := o2_some h
    obtain ⟨l1, l2⟩ := G.st hst
    have hN : X.N.Nodup := by rw [G.N]; exact G.nd
    have hi : X.N[i]? = some x := by rw [G.N]; exact ix_some e1
    by_cases hc : notComp e = true
    · exact s_set hN hi l1 (ihE.E G e2) (comp_swaps hc) l2
    · cases e <;> first | exact absurd rfl hc | skip
      · rename_i elt gens scope lpos
        have hsw : swapsWith (.ListComp elt gens scope lpos) (some (.Name x px)) pos.line X.env = pure (X.env.blockKind == .function && X.env.kindOf x == some .local && px.line == lpos.line && !(scope.names.any fun (n, k) => n == x && (k == .local || k == .cell))) := rfl
        cases hb : (X.env.blockKind == .function && X.env.kindOf x == some .local && px.line == lpos.line && !(scope.names.any fun (n, k) => n == x && (k == .local || k == .cell))) with
        | false =>
          rw [hb] at hsw
          exact s_set hN hi l1 (ihE.E G e2) hsw l2
        | true =>
          rw [hb] at hsw
          have hl : X.env.scope.names.lookup x = some .local := by
            simp only [Bool.and_eq_true] at hb
            exact beq_iff_eq.mp hb.1.1.2
          cases n with
          | zero => simp [cE] at e2
          | succ n =>
            unfold cE at e2
            split at e2 <;> rename_i heq <;> first | cases heq | skip
            · split at e2
              · rename_i hcc
                rw [Bool.and_eq_true, Bool.and_eq_true] at hcc
                rename_i tg it ifs aa
                have ha : aa = (0 : Int) := beq_iff_eq.mp hcc.1.1
                subst ha
                exact ((okN n).Lc G hcc.1.2 hcc.2 e2).2 i x px _ pos hi hl hsw
              · cases e2
            · cases e2
      · cases n with
        | zero => simp [cE] at e2
        | succ n => simp [cE] at e2
      · cases n with
        | zero => simp [cE] at e2
        | succ n => simp [cE] at e2
  · cases h
theorem ss_S {s : Stmt} {f : SEv} (h : cS (n + 1) g s = some f) : PS X s (tS X.K f) := by
  have hN : X.N.Nodup := by rw [G.N]; exact G.nd
  unfold cS at h
  split at h
  · cases h; exact s_retN
  · obtain ⟨x, e1, rfl⟩ := map_some h
    exact s_ret (ihE.E G e1)
  · cases h; exact s_pass
  · cases h; exact s_doc
  · split at h
    · rename_i hc
      obtain ⟨x, e1, rfl⟩ := map_some h
      exact s_drop (ihE.E G e1) (comp_swaps hc)
    · cases h
  · obtain ⟨c, x, y, e1, e2, e3, rfl⟩ := o3_some h
    exact s_ifS (ihE.T G e1) (ih.Ss G P e2) (ih.Ss G P e3)
  · cases h; exact s_never
  · obtain ⟨c, x, e1, e2, rfl⟩ := o2_some h
    exact s_while P (ihE.T G e1) (ih.Ss G P e2)
  · split at h
    · rename_i hs
      split at h
      · rename_i J weak hJ
        obtain ⟨t, x, e1, e2, rfl⟩ := o2_some h
        exact s_for P G.calm (ihE.I G hJ) (cG_GS G e1) (ih.Ss G P e2) (notSet_fold hs)
      · cases h
    · cases h
  · exact ss_name ihE ih G P h
  · split at h
    · cases h
    · rename_i hc
      rw [Bool.or_eq_true, not_or] at hc
      obtain ⟨x, y, z, e1, e2, e3, rfl⟩ := o3_some h
      exact s_sub (ihE.E G e1) (ihE.E G e2) (ihE.E G e3) (sub_asg (by simpa using hc.1)) (sole_tup rfl) (swap_noT (by simpa using hc.2)) rfl
  · split at h
    · rename_i hf
      obtain ⟨t, x, e1, e2, rfl⟩ := o2_some h
      exact s_asg (ihE.E G e2) (cG_GS G e1) (sole_tup rfl) (swap_folded hf) rfl
    · split at h
      · rename_i hp
        unfold par2B at hp
        simp only [Bool.and_eq_true] at hp
        obtain ⟨⟨⟨⟨⟨⟨⟨p1, p2⟩, p3⟩, p4⟩, p5⟩, p6⟩, p7⟩, p8⟩ := hp
        obtain ⟨i, j, l, e1, e2, e3, rfl⟩ := o3_some h
        have i1 := ix_some e1
        have i2 := ix_some e2
        have hij : i ≠ j := fun e => by
          subst e
          rw [i1] at i2
          cases i2
          simp at p3
        exact s_par2 G.calm hN (by rw [G.N]; exact i1) (by rw [G.N]; exact i2) hij (G.lo p1) (G.lo p2) (ihE.L G e3).1
          (swap2 (fun_block G) (G.lo p1) (G.lo p2) (by simpa using p3) p4 p5 p6 (bnot p7) (bnot p8)) (sole_tup rfl)
      · cases h
  · split at h
    · rename_i hf
      obtain ⟨t, x, e1, e2, rfl⟩ := o2_some h
      exact s_asg (ihE.E G e2) (cG_GS G e1) (sole_tup rfl) (swap_folded hf) rfl
    · split at h
      · rename_i hp
        unfold par3B at hp
        simp only [Bool.and_eq_true] at hp
        obtain ⟨⟨⟨⟨⟨⟨⟨⟨⟨⟨⟨⟨p1, p2⟩, p3⟩, p4⟩, p5⟩, p6⟩, p7⟩, p8⟩, p9⟩, p10⟩, p11⟩, p12⟩, p13⟩ := hp
        obtain ⟨q, l, e0, e4, rfl⟩ := o2_some h
        obtain ⟨i, j, kk, e1, e2, e3, rfl⟩ := o3_some e0
        have i1 := ix_some e1
        have i2 := ix_some e2
        have i3 := ix_some e3
        have hij : i ≠ j := fun e => by
          subst e
          rw [i1] at i2
          cases i2
          simp at p4
        have hik : i ≠ kk := fun e => by
          subst e
          rw [i1] at i3
          cases i3
          simp at p5
        have hjk : j ≠ kk := fun e => by
          subst e
          rw [i2] at i3
          cases i3
          simp at p6
        exact s_par3 G.calm hN (by rw [G.N]; exact i1) (by rw [G.N]; exact i2) (by rw [G.N]; exact i3) hij hik hjk (G.lo p1) (G.lo p2) (G.lo p3) (ihE.L G e4).1
          (swap3 (fun_block G) (G.lo p1) (G.lo p2) (G.lo p3) (by simpa using p4) (by simpa using p5) (by simpa using p6) p7 p8 p9 p10 p11 (bnot p12) (bnot p13)) (sole_tup rfl)
      · cases h
  · split at h
    · rename_i hc
      obtain ⟨t, x, e1, e2, rfl⟩ := o2_some h
      exact s_asg (ihE.E G e2) (cG_GS G e1) (sole_tup rfl) (swap_noT hc) rfl
    · cases h
  · split at h
    · rename_i hst
      obtain ⟨i, o, x, e1, e2, e3, rfl⟩ := o3_some h
      obtain ⟨l1, l2⟩ := G.st hst
      exact s_aug hN (by rw [G.N]; exact ix_some e1) l1 (ihE.E G e3) (ibin_ok e2) l2
    · cases h
  · split at h
    · cases h
    · rename_i hc
      obtain ⟨o, q, e0, e1, rfl⟩ := o2_some h
      obtain ⟨x, y, z, e2, e3, e4, rfl⟩ := o3_some e1
      exact s_augS (ihE.E G e2) (ihE.E G e3) (ihE.E G e4) (ibin_ok e0) (sub_aug (by simpa using hc))
  · cases h
end
theorem okS : ∀ n, OkS n
  | 0 => ⟨fun _ _ h => by simp [cS] at h, fun _ _ h => by simp [cSs] at h⟩
  | n + 1 => ⟨fun G P h => ss_S (okN n) (okS n) G P h, fun G P h => ss_Ss (okN n) (okS n) G P h⟩
end T

set_option Elab.async false
set_option linter.all false
set_option maxRecDepth 100000
set_option maxHeartbeats 2000000
namespace T
open PySem PySem.Spec PyProof.Rows L2
section
variable {P : Program} {w : World} {K : PySem.W.Frag} {mg : Str → Option Value} {base : Heap}
def FnsOk (P : Program) (w : World) (K : PySem.W.Frag) (mg : Str → Option Value) (base : Heap) (k : Nat) (fns : List (Str × Nat × FSem)) : Prop :=
  ∀ x n F, fns.lookup x = some (n, F) → ∃ f fd ps j, FnOk P w K mg base CX0 j f fd ps (spOf K n F) ∧ j ≤ k ∧ mg x = some (.ref f) ∧ PySem.W.keepIn K (.ref f) = true ∧ Binds K fd ps []
def ConOk (K : PySem.W.Frag) (mg : Str → Option Value) (con : List (Str × D)) : Prop := ∀ x d, con.lookup x = some d → ∃ v u, mg x = some u ∧ RelV v u ∧ ∀ m H, RD K m H d v
def BltOk (mg : Str → Option Value) (blt : List Str) : Prop := ∀ x, blt.contains x = true → mg x = none
theorem FnsOk.nil {k : Nat} : FnsOk P w K mg base k [] := fun x n F h => by cases h
theorem FnsOk.cons {k j n : Nat} {fns : List (Str × Nat × FSem)} {x : Str} {F : FSem} {f : Addr} {fd : FuncData} {ps : List Str} (h : FnsOk P w K mg base k fns) (hF : FnOk P w K mg base CX0 j f fd ps (spOf K n F)) (hj : j ≤ k + 1) (hm : mg x = some (.ref f)) (hk : PySem.W.keepIn K (.ref f) = true) (hb : Binds K fd ps []) :
    FnsOk P w K mg base (k + 1) ((x, n, F) :: fns) := by
  intro y n' F' e
  rw [List.lookup_cons] at e
  split at e
  · rename_i he
    cases e
    rw [beq_iff_eq.mp he]
    exact ⟨f, fd, ps, j, hF, hj, hm, hk, hb⟩
  · obtain ⟨f', fd', ps', j', a1, a2, a3⟩ := h y n' F' e
    exact ⟨f', fd', ps', j', a1, Nat.le_succ_of_le a2, a3⟩
theorem start_RS {m : List Addr} {H : Hp} {ds : List D} {vs : List V} (N : List Str) (h : RDs K m H ds vs) : RS K m H (ds.map some ++ List.replicate (N.length - ds.length) none) (L2.start N vs) := by
  unfold L2.start
  have hl := h.length
  refine ⟨by simp [hl], fun i d e => ?_⟩
  by_cases hi : i < ds.length
  · rw [List.getElem?_append_left (by simpa using hi), List.getElem?_map] at e
    obtain ⟨d', e1, e2⟩ := Option.map_eq_some_iff.mp e
    cases e2
    obtain ⟨v, g1, g2⟩ := h.get e1
    exact ⟨v, by rw [List.getElem?_append_left (by simpa [hl] using hi), List.getElem?_map, g1]; rfl, g2⟩
  · rw [List.getElem?_append_right (by simpa using hi)] at e
    rw [List.getElem?_replicate] at e
    split at e <;> cases e
theorem def_ok {x qual : Str} {params : Arguments} {body : List Stmt} {scope : Scope} {f : Addr} {fd : FuncData} {N ps : List Str} {k n fuel : Nat} {fns : List (Str × Nat × FSem)} {con : List (Str × D)} {blt : List Str} {b : SEv}
    (F : FunD K x qual params body scope [] [] f fd) (S : FnScope N ps scope) (hn : n = ps.length) (hc : cSs fuel ⟨N, scope, fun _ => true, fns, con, blt⟩ body = some b) (h1 : FnsOk P w K mg base k fns) (h2 : ConOk K mg con) (h3 : BltOk mg blt) :
    FnOk P w K mg base CX0 (k + 1) f fd ps (spOf K n (defF N.length b)) := by
  refine F.ok S (fun vs H Q E h => by rw [← hn]; exact h.1) (fun cdv A outer s H vs Q E hr h => ⟨tS K b, PSs.nox ?_, ?_⟩)
  · have G : XG (cxOf CX0 P w K mg base N qual scope f cdv A outer s H E).nox ⟨N, scope, fun _ => true, fns, con, blt⟩ k :=
      ⟨rfl, S.nd, rfl, S.kind, rfl, hr, fun _ _ => rfl, h1, h2, h3⟩
    exact (okS fuel).Ss G PassesOwn.never hc
  · obtain ⟨_, m, S0, ds, r, rds, q⟩ := h
    refine ⟨m, S0, _, r, start_RS N rds, ?_⟩
    unfold defF at q
    split at q
    · rename_i e; rw [e]; exact fun m' H' σ st r' _ => q m' H' .non st r' rfl
    · rename_i e; rw [e]; exact q
    · exact q.elim
    · exact q.elim
/-- a def's scope, checked -/
def scB (N ps : List Str) (sc : Scope) : Bool :=
  decide (sc.kind = .function) && !sc.isCoroutine && !sc.isGenerator && decide N.Nodup && decide (N.take ps.length = ps) && ps.all (fun x => sc.names.lookup x == some .local || sc.names.lookup x == some .cell) && sc.names.all (fun y => !(y.2 == .free))
theorem scB_ok {N ps : List Str} {sc : Scope} (h : scB N ps sc = true) : FnScope N ps sc := by
  unfold scB at h
  simp only [Bool.and_eq_true, List.all_eq_true] at h
  obtain ⟨⟨⟨⟨⟨⟨h1, h2⟩, h3⟩, h4⟩, h5⟩, h6⟩, h7⟩ := h
  refine ⟨of_decide_eq_true h1, bnot h2, bnot h3, of_decide_eq_true h4, of_decide_eq_true h5, fun x hx => ?_, fun y hy e => ?_⟩
  · have := h6 x hx
    simpa using this
  · have := h7 y hy
    rw [e] at this
    simp at this
end
end T

set_option Elab.async false
set_option linter.all false
set_option maxRecDepth 100000
set_option maxHeartbeats 2000000
namespace T
open PySem PySem.Spec PyProof.Rows L2
/-! ### the head: what the top has laid, without lists -/
def notL (o : Obj) : Bool := match o.cls with
  | .type c => !decide (c = "list")
  | _ => true
def frL (g : Addr → Option Obj) (as : List Addr) : PySem.W.Frag := (He.frG g as).filter fun p => notL p.2
theorem frG_mem {g : Addr → Option Obj} {as : List Addr} {p : Addr × Obj} (h : p ∈ He.frG g as) : g p.1 = some p.2 := by
  unfold He.frG at h
  rw [List.mem_filterMap] at h
  obtain ⟨a, _, e⟩ := h
  obtain ⟨o, e1, e2⟩ := Option.map_eq_some_iff.mp e
  subst e2
  exact e1
theorem mem_lookup {K : List (Addr × Obj)} {a : Addr} {o : Obj} (h : K.lookup a = some o) : (a, o) ∈ K := by
  induction K with
  | nil => cases h
  | cons p r ih =>
    rw [List.lookup_cons] at h
    split at h
    · rename_i e
      cases h
      rw [beq_iff_eq.mp e]
      exact List.mem_cons_self ..
    · exact List.mem_cons_of_mem _ (ih h)
theorem frL_in {as : List Addr} {h : Heap} : (frL h.get? as).In h := fun a o e => frG_mem (List.mem_filter.mp (mem_lookup e)).1
def NoL (K : PySem.W.Frag) : Prop := ∀ a o, K.lookup a = some o → o.cls ≠ .type "list"
theorem frL_no {g : Addr → Option Obj} {as : List Addr} : NoL (frL g as) := fun a o e z => by
  have h := (List.mem_filter.mp (mem_lookup e)).2
  have h : notL o = true := h
  unfold notL at h
  rw [z] at h
  exact Bool.noConfusion h
def obsE (n : Nat) (fa : List He.Fa) (fn : List He.DefD) (ex : PySem.W.Frag → Bool) (g : Addr → Option Obj) : He.AlD :=
  ((He.obsD fa fn (frL g (He.asD g n))).1 && ex (frL g (He.asD g n)), (He.obsD fa fn (frL g (He.asD g n))).2)
theorem obsE_says {n : Nat} {fa : List He.Fa} {fn : List He.DefD} {ex : PySem.W.Frag → Bool} {g : Addr → Option Obj} (e : obsE n fa fn ex g = He.valD fn) : He.SaysD fa fn (frL g (He.asD g n)) ∧ ex (frL g (He.asD g n)) = true := by
  have e1' : (obsE n fa fn ex g).1 = true := congrArg (fun z : He.AlD => z.1) e
  have e1 : ((He.obsD fa fn (frL g (He.asD g n))).1 && ex (frL g (He.asD g n))) = true := e1'
  have e2' : (obsE n fa fn ex g).2 = (He.valD fn).2 := congrArg (fun z : He.AlD => z.2) e
  have e2 : (He.obsD fa fn (frL g (He.asD g n))).2 = (He.valD fn).2 := e2'
  rw [Bool.and_eq_true] at e1
  exact ⟨Prod.ext e1.1 e2, e1.2⟩
def hookE (n : Nat) (fa : List He.Fa) (fn : List He.DefD) (ex : PySem.W.Frag → Bool) : PySem.W.Hook where
  α := He.AlD
  obs := fun s => obsE n fa fn ex s.heap.get?
  val := fun _ => He.valD fn
  says := fun _ h => ∃ K : PySem.W.Frag, K.In h ∧ He.SaysD fa fn K ∧ ex K = true ∧ NoL K
  of := fun _ _ e => ⟨_, frL_in, (obsE_says e).1, (obsE_says e).2, frL_no⟩
  keeps := fun _ _ _ ⟨K, hK, c⟩ k => ⟨K, PySem.W.Frag.In.keeps hK k, c⟩
theorem obsE_eq {n : Nat} {fa : List He.Fa} {fn : List He.DefD} {ex : PySem.W.Frag → Bool} {g : Addr → Option Obj} {s : Shared} (h : ∀ a, g a = s.heap.get? a) : obsE n fa fn ex g = (hookE n fa fn ex).obs s := by
  have e : g = s.heap.get? := funext h
  rw [e] <;> rfl
/-- the module's name x is a tuple of these texts -/
def strsB : List Str → List Value → Bool
  | [], [] => true
  | x :: xs, .str y _ :: us => decide (y = x) && strsB xs us
  | _, _ => false
def tupS (K : PySem.W.Frag) (x : Str) (xs : List Str) : Bool := match K.lookup (He.ga K x) with
  | some ⟨.type c, none, .seq its _, _⟩ => decide (c = "tuple") && (decide (its.size ≤ sizeLine) && strsB xs its.toList)
  | _ => false
theorem strsB_ok {K : PySem.W.Frag} {m : List Addr} {H : Hp} : ∀ {xs : List Str} {us : List Value}, strsB xs us = true → ∃ vs, Vals vs us ∧ RDs K m H (xs.map fun s => D.str s.cps.toList) vs
  | [], [], _ => ⟨[], .nil, rfl⟩
  | [], _ :: _, h => by cases h
  | _ :: _, [], h => by cases h
  | x :: xs, u :: us, h => by
    cases u <;> first | cases h | skip
    rename_i y t
    have h : (decide (y = x) && strsB xs us) = true := h
    rw [Bool.and_eq_true] at h
    have e : y = x := of_decide_eq_true h.1
    subst e
    obtain ⟨vs, h1, h2⟩ := strsB_ok (K := K) (m := m) (H := H) h.2
    refine ⟨.str y :: vs, .cons ⟨t, rfl⟩ h1, .str y, vs, rfl, ?_, h2⟩
    show V.str y = V.str ⟨y.cps.toList.toArray⟩
    rw [Array.toArray_toList]
theorem tupS_ok {K : PySem.W.Frag} {x : Str} {xs : List Str} (h : tupS K x xs = true) (m : List Addr) (H : Hp) : RD K m H (.tup (xs.map fun s => D.str s.cps.toList)) (.ref (He.ga K x)) := by
  unfold tupS at h
  split at h
  · rename_i c its n sl q
    rw [Bool.and_eq_true, Bool.and_eq_true] at h
    obtain ⟨vs, h1, h2⟩ := strsB_ok (K := K) (m := m) (H := H) h.2.2
    have hc := of_decide_eq_true h.1
    exact ⟨_, vs, rfl, .inr ⟨_, its, n, q, by rw [hc], rfl, rfl, of_decide_eq_true h.2.1, h1⟩, h2⟩
  · cases h
/-! ### the end -/
theorem walkT {l : PySem.W.OpenLaw} {n k j : Nat} {q : Program} {loose : List Str} {XP : (Str → Option Value) → Heap → Prop} {d : DefRec} {x : Str} {fa : List He.Fa} {fn : List He.DefD} {ex : PySem.W.Frag → Bool} {Fl : FSem}
    (hn : l.most = some n) (hn2 : n ≤ sizeLine) (hdf : d.params.defaults = []) (hr : Room k callerA)
    (F : ∀ (w : World) (mg : Str → Option Value) (f : Addr) (h : Heap) (K : PySem.W.Frag), K.In h → He.SaysD fa fn K → ex K = true → h.Ns mainGlobals mg → mg d.name = some (.ref f) →
      ∃ fd : FuncData, (∀ (s : Shared) (u : Value), BindsTo s fd ⟨[u], []⟩ [(x, u)]) ∧ ∀ base : Heap, FnOk l.prog w K mg base CX0 k f fd [x] (spOf K 1 Fl))
    (hlaw : ∀ ns : List Int, ns.length ≤ n → (∀ z ∈ ns, Builtin.Int.intBits z ≤ 1048576) → goodR (Fl [.ref 0] [.fz (ns.map D.int)]) fun r _ => r = .bl true) :
    PySem.W.WalkO q loose XP (hookE j fa fn ex).says l.row.toRowW d [] (fun f vs => PySem.call f vs) := by
  refine Att.attach_callB hn hdf fun w s₀ s₁ mg mb f o pm cd doc a vs ns G Y ho hd hcd hmg hobj hints hlen hbits hg => ?_
  obtain ⟨K, KX, c, hex, noL⟩ := Y
  obtain ⟨fd, hb, hF⟩ := F w mg f _ K KX c hex G.T.g hmg
  refine law_call KX G.T.g G.T.b G.T.builtins G.T.nolimit hg hobj hints (Nat.le_trans hlen hn2) hr (fun base _ _ => hF base) hb (fun H hO hS => ?_) fun H e s' z => z
  have hfz : ∃ o, H a = some (.frz o (.lst (ns.map V.int))) := by
    rcases hS with (h | h) | ⟨o, _, _, h1, h2, _⟩
    · rcases hO a with z | ⟨o, xs, z⟩
      · rw [z] at h; cases h
      · rw [z] at h; cases h
    · exact h
    · exact absurd h2 (noL a o h1)
  obtain ⟨o2, hfz⟩ := hfz
  refine ⟨rfl, [a], [.fz (ns.map D.int)], [.ref 0], ⟨rfl, by simp, fun i b c e1 e2 => ?_⟩, ⟨_, _, rfl, ⟨a, rfl, rfl⟩, rfl⟩, (hlaw ns hlen hbits).mono fun r S e m' H' v st r' q => ?_⟩
  · cases i with
    | zero =>
      cases e1
      cases e2
      exact ⟨_, o2, hfz, RDs.ints _⟩
    | succ i => simp at e1
  · subst e
    exact q
end T

set_option Elab.async false
set_option linter.all false
set_option maxRecDepth 100000
/-! Weakest preconditions of the clean semantics. -/
namespace T
open PySem
section
variable {α β : Type} {ρ : Env} {S : Store} {P : D → Store → Prop} {N : Env → Store → Prop} {Q : D → Store → Prop}
theorem w_ok {a : α} {P : α → Store → Prop} : goodR (.ok a S) P ↔ P a S := Iff.rfl
theorem w_err {P : α → Store → Prop} : goodR (.err : R α) P ↔ False := Iff.rfl
theorem w_ite {c : Prop} [Decidable c] {x y : R α} {P : α → Store → Prop} : goodR (if c then x else y) P ↔ if c then goodR x P else goodR y P := by split <;> exact Iff.rfl
theorem w_def {n : Nat} {b : SEv} {as : List D} : goodR (defF n b as S) P ↔ goodS (b (as.map some ++ List.replicate (n - as.length) none) S) (fun _ S1 => P .non S1) P := by
  unfold defF
  cases b (as.map some ++ List.replicate (n - as.length) none) S <;> exact Iff.rfl
theorem w_nil : goodS (sNil ρ S) N Q ↔ N ρ S := Iff.rfl
theorem w_seq {a b : SEv} : goodS (sSeq a b ρ S) N Q ↔ goodS (a ρ S) (fun ρ1 S1 => goodS (b ρ1 S1) N Q) Q := by
  unfold sSeq
  cases a ρ S <;> exact Iff.rfl
theorem w_ret {e : Ev} : goodS (sRet e ρ S) N Q ↔ goodR (e ρ S) Q := by
  unfold sRet; rw [goodS_ofR]; exact Iff.rfl
theorem w_retN : goodS (sRetN ρ S) N Q ↔ Q .non S := Iff.rfl
theorem w_serr : goodS (sErr ρ S) N Q ↔ False := Iff.rfl
theorem w_drop {e : Ev} : goodS (sDrop e ρ S) N Q ↔ goodR (e ρ S) fun _ S1 => N ρ S1 := by
  unfold sDrop; rw [goodS_ofR]; exact Iff.rfl
theorem w_if {c : TEv} {a b : SEv} : goodS (sIf c a b ρ S) N Q ↔ goodR (c ρ S) fun t S1 => if t = true then goodS (a ρ S1) N Q else goodS (b ρ S1) N Q := by
  unfold sIf
  cases c ρ S with
  | ok t S1 => cases t <;> simp [goodR]
  | _ => exact Iff.rfl
theorem w_asg {t : Tg} {e : Ev} : goodS (sAsg t e ρ S) N Q ↔ goodR (e ρ S) fun d S1 => ∃ ρ1, t d ρ S1 = some ρ1 ∧ N ρ1 S1 := by
  unfold sAsg; rw [goodS_ofR]
  cases e ρ S with
  | ok d S1 =>
    show goodS _ _ _ ↔ _
    cases h : t d ρ S1 <;> simp [goodS, goodR, h]
  | _ => exact Iff.rfl
theorem w_par {l : LEv} {t : Tgs} : goodS (sPar l t ρ S) N Q ↔ goodR (l ρ S) fun d S1 => ∃ ρ1, t d ρ S1 = some ρ1 ∧ N ρ1 S1 := by
  unfold sPar
  cases l ρ S with
  | ok d S1 =>
    show goodS (match t d ρ S1 with | some ρ1 => SR.nx ρ1 S1 | none => .err) _ _ ↔ _
    cases h : t d ρ S1 <;> simp [goodS, goodR, h]
  | _ => exact Iff.rfl
theorem w_aug {i : Nat} {f : D → D → Store → R D} {e : Ev} : goodS (sAug i f e ρ S) N Q ↔ ∃ x, ρ[i]? = some (some x) ∧ goodR (e ρ S) fun y S1 => goodR (f x y S1) fun z S2 => N (ρ.set i (some z)) S2 := by
  unfold sAug
  cases h : ρ[i]? with
  | none => simp [goodS]
  | some o =>
    cases o with
    | none => simp [goodS]
    | some x =>
      simp only [goodS_ofR, Option.some.injEq, exists_eq_left']
      exact Iff.rfl
theorem w_sub {p : D → D → D → Store → Option Store} {e o i : Ev} : goodS (sSub p e o i ρ S) N Q ↔ goodR (e ρ S) fun v S1 => goodR (o ρ S1) fun x S2 => goodR (i ρ S2) fun y S3 => ∃ S4, p x y v S3 = some S4 ∧ N ρ S4 := by
  unfold sSub
  rw [goodS_ofR]
  cases e ρ S with
  | ok v S1 =>
    show goodS (ofR _ _) _ _ ↔ goodR (o ρ S1) _
    rw [goodS_ofR]
    cases o ρ S1 with
    | ok x S2 =>
      show goodS (ofR _ _) _ _ ↔ goodR (i ρ S2) _
      rw [goodS_ofR]
      cases i ρ S2 with
      | ok y S3 =>
        show goodS (match p x y v S3 with | some S4 => SR.nx ρ S4 | none => .err) _ _ ↔ ∃ S4, _
        cases h : p x y v S3 <;> simp [goodS]
      | _ => exact Iff.rfl
    | _ => exact Iff.rfl
  | _ => exact Iff.rfl
theorem w_var {i : Nat} : goodR (eVar i ρ S) P ↔ ∃ d, ρ[i]? = some (some d) ∧ P d S := by
  unfold eVar
  cases h : ρ[i]? with
  | none => simp [goodR]
  | some o => cases o <;> simp [goodR]
theorem w_c {d : D} : goodR (eC d ρ S) P ↔ P d S := Iff.rfl
theorem w_e1 {f : D → Store → R D} {a : Ev} : goodR (e1 f a ρ S) P ↔ goodR (a ρ S) fun x S1 => goodR (f x S1) P := goodR_bind
theorem w_e2 {f : D → D → Store → R D} {a b : Ev} : goodR (e2 f a b ρ S) P ↔ goodR (a ρ S) fun x S1 => goodR (b ρ S1) fun y S2 => goodR (f x y S2) P := by
  unfold e2; simp only [goodR_bind]
theorem w_lnil {P : List D → Store → Prop} : goodR (lNil ρ S) P ↔ P [] S := Iff.rfl
theorem w_lcons {a : Ev} {l : LEv} {P : List D → Store → Prop} : goodR (lCons a l ρ S) P ↔ goodR (a ρ S) fun x S1 => goodR (l ρ S1) fun xs S2 => P (x :: xs) S2 := by
  unfold lCons; simp only [goodR_bind]; exact Iff.rfl
theorem w_tup {l : LEv} : goodR (eTup l ρ S) P ↔ goodR (l ρ S) fun xs S1 => xs.length ≤ lineN ∧ P (.tup xs) S1 := by
  unfold eTup; simp only [goodR_bind, w_ite, w_ok, w_err]
  constructor <;> intro h <;> refine h.mono fun xs S1 q => ?_
  · split at q
    · exact ⟨‹_›, q⟩
    · exact q.elim
  · rw [if_pos q.1]; exact q.2
theorem w_lst {l : LEv} : goodR (eLst l ρ S) P ↔ goodR (l ρ S) fun xs S1 => xs.length ≤ lineN ∧ P (.ref S1.length) (S1 ++ [.lst xs]) := by
  unfold eLst; simp only [goodR_bind, w_ite, w_ok, w_err]
  constructor <;> intro h <;> refine h.mono fun xs S1 q => ?_
  · split at q
    · exact ⟨‹_›, q⟩
    · exact q.elim
  · rw [if_pos q.1]; exact q.2
theorem w_call {n : Nat} {f : FSem} {l : LEv} : goodR (eCall n f l ρ S) P ↔ goodR (l ρ S) fun xs S1 => xs.length = n ∧ goodR (gcR S1 (f xs S1)) P := by
  unfold eCall; simp only [goodR_bind, w_ite, w_err]
  constructor <;> intro h <;> refine h.mono fun xs S1 q => ?_
  · split at q
    · exact ⟨‹_›, q⟩
    · exact q.elim
  · rw [if_pos q.1]; exact q.2
theorem w_b {f : FSem} {l : LEv} : goodR (eB f l ρ S) P ↔ goodR (l ρ S) fun xs S1 => goodR (f xs S1) P := goodR_bind
theorem w_mt {F : String → Option MSem} {o : Ev} {l : LEv} : goodR (eMt F o l ρ S) P ↔ goodR (o ρ S) fun x S1 => ∃ g, F (kindD x S1) = some g ∧ goodR (l ρ S1) fun xs S2 => goodR (g x xs S2) P := by
  unfold eMt; rw [goodR_bind]
  constructor <;> intro h <;> refine h.mono fun x S1 q => ?_
  · split at q
    · rename_i g hg; exact ⟨g, hg, goodR_bind.mp q⟩
    · exact q.elim
  · obtain ⟨g, hg, q⟩ := q
    rw [hg]; exact goodR_bind.mpr q
theorem w_ife {c : TEv} {a b : Ev} : goodR (eIf c a b ρ S) P ↔ goodR (c ρ S) fun t S1 => if t = true then goodR (a ρ S1) P else goodR (b ρ S1) P := by
  unfold eIf; rw [goodR_bind]
  constructor <;> intro h <;> refine h.mono fun t S1 q => ?_
  · cases t <;> simpa using q
  · cases t <;> simpa using q
theorem w_and {a b : Ev} : goodR (eAnd a b ρ S) P ↔ goodR (a ρ S) fun x S1 => ∃ t, x = .bl t ∧ if t = true then goodR (b ρ S1) P else P (.bl false) S1 := by
  unfold eAnd; rw [goodR_bind]
  constructor <;> intro h <;> refine h.mono fun x S1 q => ?_
  · split at q
    · exact ⟨true, rfl, q⟩
    · exact ⟨false, rfl, q⟩
    · exact q.elim
  · obtain ⟨t, rfl, q⟩ := q
    cases t <;> simpa [w_ok] using q
theorem w_or {a b : Ev} : goodR (eOr a b ρ S) P ↔ goodR (a ρ S) fun x S1 => ∃ t, x = .bl t ∧ if t = true then P (.bl true) S1 else goodR (b ρ S1) P := by
  unfold eOr; rw [goodR_bind]
  constructor <;> intro h <;> refine h.mono fun x S1 q => ?_
  · split at q
    · exact ⟨true, rfl, q⟩
    · exact ⟨false, rfl, q⟩
    · exact q.elim
  · obtain ⟨t, rfl, q⟩ := q
    cases t <;> simpa [w_ok] using q
theorem w_not {a : TEv} : goodR (eNot a ρ S) P ↔ goodR (a ρ S) fun t S1 => P (.bl (!t)) S1 := by
  unfold eNot; rw [goodR_bind]; exact Iff.rfl
theorem w_chain {f g : D → D → Store → R D} {a b c : Ev} : goodR (eChain f g a b c ρ S) P ↔ goodR (a ρ S) fun x S1 => goodR (b ρ S1) fun y S2 => goodR (f x y S2) fun z S3 => ∃ t, z = .bl t ∧ if t = true then goodR (c ρ S3) fun w S4 => goodR (g y w S4) P else P (.bl false) S3 := by
  unfold eChain; simp only [goodR_bind]
  constructor <;> intro h <;> refine h.mono fun x S1 h => h.mono fun y S2 h => h.mono fun z S3 q => ?_
  · split at q
    · exact ⟨true, rfl, by simpa [goodR_bind] using q⟩
    · exact ⟨false, rfl, q⟩
    · exact q.elim
  · obtain ⟨t, rfl, q⟩ := q
    cases t
    · simpa [w_ok] using q
    · simpa [goodR_bind] using q
theorem w_cut {e : Ev} {lo hi : OEv} : goodR (eCut e lo hi ρ S) P ↔ goodR (e ρ S) fun d S1 => goodR (lo ρ S1) fun l S2 => goodR (hi ρ S2) fun h S3 => goodR (bCut d l h S3) P := by
  unfold eCut; simp only [goodR_bind]
theorem w_onone {P : Option Int → Store → Prop} : goodR (oNone ρ S) P ↔ P none S := Iff.rfl
theorem w_osome {e : Ev} {P : Option Int → Store → Prop} : goodR (oSome e ρ S) P ↔ goodR (e ρ S) fun d S1 => ∃ i, d = .int i ∧ P (some i) S1 := by
  unfold oSome; rw [goodR_bind]
  constructor <;> intro h <;> refine h.mono fun x S1 q => ?_
  · split at q
    · exact ⟨_, rfl, q⟩
    · exact q.elim
  · obtain ⟨i, rfl, q⟩ := q; exact q
theorem w_isi {f : Ev} {cs : List String} : goodR (eIsi f cs ρ S) P ↔ goodR (f ρ S) fun d S1 => ∃ t, tyD d S1 = some t ∧ P (.bl (cs.any fun c => isTy t c)) S1 := by
  unfold eIsi; rw [goodR_bind]
  constructor <;> intro h <;> refine h.mono fun x S1 q => ?_
  · split at q
    · exact ⟨_, ‹_›, q⟩
    · exact q.elim
  · obtain ⟨t, h, q⟩ := q; rw [h]; exact q
theorem w_tv {a : Ev} {P : Bool → Store → Prop} : goodR (tV a ρ S) P ↔ goodR (a ρ S) fun x S1 => ∃ b, truth x S1 = some b ∧ P b S1 := by
  unfold tV; rw [goodR_bind]
  constructor <;> intro h <;> refine h.mono fun x S1 q => ?_
  · split at q
    · exact ⟨_, ‹_›, q⟩
    · exact q.elim
  · obtain ⟨t, h, q⟩ := q; rw [h]; exact q
theorem w_tb {a : Ev} {P : Bool → Store → Prop} : goodR (tB a ρ S) P ↔ goodR (a ρ S) fun x S1 => ∃ b, x = .bl b ∧ P b S1 := by
  unfold tB; rw [goodR_bind]
  constructor <;> intro h <;> refine h.mono fun x S1 q => ?_
  · split at q
    · exact ⟨_, rfl, q⟩
    · exact q.elim
  · obtain ⟨t, rfl, q⟩ := q; exact q
theorem w_tnot {a : TEv} {P : Bool → Store → Prop} : goodR (tNot a ρ S) P ↔ goodR (a ρ S) fun t S1 => P (!t) S1 := by
  unfold tNot; rw [goodR_bind]; exact Iff.rfl
theorem w_tand {a b : TEv} {P : Bool → Store → Prop} : goodR (tAnd a b ρ S) P ↔ goodR (a ρ S) fun t S1 => if t = true then goodR (b ρ S1) P else P false S1 := by
  unfold tAnd; rw [goodR_bind]
  constructor <;> intro h <;> refine h.mono fun t S1 q => ?_ <;> cases t <;> simpa [w_ok] using q
theorem w_tor {a b : TEv} {P : Bool → Store → Prop} : goodR (tOr a b ρ S) P ↔ goodR (a ρ S) fun t S1 => if t = true then P true S1 else goodR (b ρ S1) P := by
  unfold tOr; rw [goodR_bind]
  constructor <;> intro h <;> refine h.mono fun t S1 q => ?_ <;> cases t <;> simpa [w_ok] using q
theorem w_tyes {P : Bool → Store → Prop} : goodR (tYes ρ S) P ↔ P true S := Iff.rfl
/-! ### loops -/
theorem w_forL {at_ : Nat → Store → Option (Option D)} {t : Tg} {b : SEv} (l : List D) (I : Nat → Env → Store → Prop) (hat : ∀ i ρ S, I i ρ S → i ≤ l.length → at_ i S = some l[i]?)
    (hs : ∀ i d ρ S, l[i]? = some d → I i ρ S → ∃ ρ1, t d ρ S = some ρ1 ∧ goodS (b ρ1 S) (I (i + 1)) Q) :
    ∀ (n i : Nat) (ρ : Env) (S : Store), l.length ≤ i + n → i ≤ l.length → I i ρ S → goodS (forL at_ t b n i ρ S) (fun ρ S => I l.length ρ S) Q
  | 0, i, ρ, S, h1, h2, h => by
    unfold forL
    rw [hat i ρ S h h2, List.getElem?_eq_none (by omega)]
    have : i = l.length := by omega
    subst this
    exact h
  | n + 1, i, ρ, S, h1, h2, h => by
    unfold forL
    rw [hat i ρ S h h2]
    cases e : l[i]? with
    | none =>
      have : i = l.length := by
        have := List.getElem?_eq_none_iff.mp e
        omega
      subst this
      exact h
    | some d =>
      obtain ⟨ρ1, h3, h4⟩ := hs i d ρ S e h
      dsimp only
      rw [h3]
      dsimp only
      have hl := (List.getElem?_eq_some_iff.mp e).1
      cases e2 : b ρ1 S with
      | nx ρ2 S2 => rw [e2] at h4; exact w_forL l I hat hs n (i + 1) ρ2 S2 (by omega) (by omega) h4
      | rt d2 S2 => rw [e2] at h4; exact h4
      | exc c d2 S2 => rw [e2] at h4; exact h4.elim
      | err => rw [e2] at h4; exact h4.elim
theorem w_for {t : Tg} {it : IEv} {b : SEv} : goodS (sFor t it b ρ S) N Q ↔ goodR (it ρ S) fun J S1 => goodS (forL J.at_ t b J.n 0 ρ S1) N Q := by
  unfold sFor
  cases it ρ S <;> exact Iff.rfl
theorem w_whL {c : TEv} {b : SEv} (I : Nat → Env → Store → Prop) (hs : ∀ k ρ S, I k ρ S → goodR (c ρ S) fun t S1 => if t = true then 0 < k ∧ goodS (b ρ S1) (I (k - 1)) Q else N ρ S1) :
    ∀ (n k : Nat) (ρ : Env) (S : Store), k < n → I k ρ S → goodS (whL c b n ρ S) N Q
  | 0, k, ρ, S, h1, h => by omega
  | n + 1, k, ρ, S, h1, h => by
    have h2 := hs k ρ S h
    unfold whL
    cases e : c ρ S with
    | ok t S1 =>
      rw [e] at h2
      cases t with
      | false => exact h2
      | true =>
        obtain ⟨h3, h4⟩ := h2
        dsimp only
        cases e2 : b ρ S1 with
        | nx ρ2 S2 => rw [e2] at h4; exact w_whL I hs n (k - 1) ρ2 S2 (by omega) h4
        | rt d2 S2 => rw [e2] at h4; exact h4
        | exc c d2 S2 => rw [e2] at h4; exact h4.elim
        | err => rw [e2] at h4; exact h4.elim
    | exc c d2 S2 => rw [e] at h2; exact h2.elim
    | err => rw [e] at h2; exact h2.elim
theorem w_while {c : TEv} {b : SEv} (I : Nat → Env → Store → Prop) (k : Nat) (hk : k < 4294967296) (h0 : I k ρ S) (hs : ∀ k ρ S, I k ρ S → goodR (c ρ S) fun t S1 => if t = true then 0 < k ∧ goodS (b ρ S1) (I (k - 1)) Q else N ρ S1) : goodS (sWhile c b ρ S) N Q :=
  w_whL I hs _ k ρ S hk h0
theorem w_lcL {at_ : Nat → Store → Option (Option D)} {t : Tg} {c : TEv} {e : Ev} {P : List D → Store → Prop} (l : List D) (I : Nat → List D → Store → Prop) (hat : ∀ i acc S, I i acc S → i ≤ l.length → at_ i S = some l[i]?) (hlen : l.length ≤ lineN) (hacc : ∀ i acc S, I i acc S → acc.length ≤ i)
    (hs : ∀ i d acc S, l[i]? = some d → I i acc S → ∃ ρ1, t d ρ S = some ρ1 ∧ goodR (c ρ1 S) fun b S1 => if b = true then goodR (e ρ1 S1) fun y S2 => I (i + 1) (acc ++ [y]) S2 else I (i + 1) acc S1) (hp : ∀ acc S, I l.length acc S → P acc S) :
    ∀ (n i : Nat) (acc : List D) (S : Store), l.length ≤ i + n → i ≤ l.length → I i acc S → goodR (lcL at_ t c e ρ n i acc S) P
  | 0, i, acc, S, h1, h2, h => by
    unfold lcL
    rw [hat i acc S h h2, List.getElem?_eq_none (by omega)]
    have : i = l.length := by omega
    subst this
    exact hp _ _ h
  | n + 1, i, acc, S, h1, h2, h => by
    unfold lcL
    rw [hat i acc S h h2]
    cases e2 : l[i]? with
    | none =>
      have : i = l.length := by
        have := List.getElem?_eq_none_iff.mp e2
        omega
      subst this
      exact hp _ _ h
    | some d =>
      obtain ⟨ρ1, h3, h4⟩ := hs i d acc S e2 h
      have hl := (List.getElem?_eq_some_iff.mp e2).1
      dsimp only
      rw [h3]
      dsimp only
      rw [goodR_bind]
      refine h4.mono fun b S1 h5 => ?_
      cases b with
      | false => exact w_lcL l I hat hlen hacc hs hp n (i + 1) acc S1 (by omega) (by omega) (by simpa using h5)
      | true =>
        dsimp only
        rw [goodR_bind]
        refine (show goodR (e ρ1 S1) _ by simpa using h5).mono fun y S2 h6 => ?_
        have := hacc _ _ _ h
        rw [if_pos (by omega)]
        exact w_lcL l I hat hlen hacc hs hp n (i + 1) (acc ++ [y]) S2 (by omega) (by omega) h6
theorem w_lc {own : List Nat} {t : Tg} {it : IEv} {c : TEv} {e : Ev} : goodR (eLc own t it c e ρ S) P ↔ goodR (it ρ S) fun J S1 => goodR (lcL J.at_ t c e (wipeE ρ own) J.n 0 [] S1) fun l S2 => P (.ref S2.length) (S2 ++ [.lst l]) := by
  unfold eLc; simp only [goodR_bind]; exact Iff.rfl
theorem w_iseq {e : Ev} {P : It → Store → Prop} : goodR (iSeq e ρ S) P ↔ goodR (e ρ S) fun d S1 => ∃ J, seqIt d S1 = some J ∧ P J S1 := by
  unfold iSeq; rw [goodR_bind]
  constructor <;> intro h <;> refine h.mono fun x S1 q => ?_
  · split at q
    · exact ⟨_, ‹_›, q⟩
    · exact q.elim
  · obtain ⟨t, h, q⟩ := q; rw [h]; exact q
theorem w_izip {b : Bool} {l : LEv} {P : It → Store → Prop} : goodR (iZip b l ρ S) P ↔ goodR (l ρ S) fun ds S1 => ∃ x y J, ds = [x, y] ∧ zipIt b x y S1 = some J ∧ P J S1 := by
  unfold iZip; rw [goodR_bind]
  constructor <;> intro h <;> refine h.mono fun ds S1 q => ?_
  · split at q
    · split at q
      · exact ⟨_, _, _, rfl, ‹_›, q⟩
      · exact q.elim
    · exact q.elim
  · obtain ⟨x, y, J, rfl, h, q⟩ := q; dsimp only; rw [h]; exact q
theorem w_ienum1 {l : LEv} {P : It → Store → Prop} : goodR (iEnum1 l ρ S) P ↔ goodR (l ρ S) fun ds S1 => ∃ x J, ds = [x] ∧ enIt 0 x S1 = some J ∧ P J S1 := by
  unfold iEnum1; rw [goodR_bind]
  constructor <;> intro h <;> refine h.mono fun ds S1 q => ?_
  · split at q
    · split at q
      · exact ⟨_, _, rfl, ‹_›, q⟩
      · exact q.elim
    · exact q.elim
  · obtain ⟨x, J, rfl, h, q⟩ := q; dsimp only; rw [h]; exact q
theorem w_irng1 {l : LEv} {P : It → Store → Prop} : goodR (iRng1 l ρ S) P ↔ goodR (l ρ S) fun ds S1 => ∃ j, ds = [.int j] ∧ okR j = true ∧ P (rngIt 0 j) S1 := by
  unfold iRng1; rw [goodR_bind]
  constructor <;> intro h <;> refine h.mono fun ds S1 q => ?_
  · split at q
    · split at q
      · exact ⟨_, rfl, ‹_›, q⟩
      · exact q.elim
    · exact q.elim
  · obtain ⟨j, rfl, h, q⟩ := q; dsimp only; rw [if_pos h]; exact q
/-! ### calls -/
theorem gc_goodR {S : Store} {x : R D} : goodR (gcR S x) P ↔ goodR x fun d S2 => P (gc S d S2).1 (gc S d S2).2 := by
  unfold gcR; rw [goodR_bind]; exact Iff.rfl
theorem sameCell_refl (c : Cell) : sameCell c c = true := by
  cases c <;> simp [sameCell, D.beqL_refl]
theorem oldOk_of : ∀ {S S' : Store}, (∀ (i : Nat) (c : Cell), S[i]? = some c → ∃ c' : Cell, S'[i]? = some c' ∧ (c'.flat = true ∨ c' = c)) → oldOk S S' = true
  | [], _, _ => rfl
  | a :: S, [], h => by
    obtain ⟨c', h1, _⟩ := h 0 a rfl
    simp at h1
  | a :: S, b :: S', h => by
    obtain ⟨c', h1, h2⟩ := h 0 a rfl
    simp at h1
    subst h1
    unfold oldOk
    rw [Bool.and_eq_true, Bool.or_eq_true]
    refine ⟨?_, oldOk_of fun i c e => h (i + 1) c (by simpa using e)⟩
    rcases h2 with h2 | h2
    · exact .inl h2
    · exact .inr (by rw [h2]; exact sameCell_refl a)
/-- what a call hands back when its own cells stand behind the old ones -/
theorem gc_flat {S T G : Store} {d : D} (hl : T.length = S.length) (h : ∀ (i : Nat) (c : Cell), S[i]? = some c → ∃ c' : Cell, T[i]? = some c' ∧ (c'.flat = true ∨ c' = c)) (hd : d.flat = true) : gc S d (T ++ G) = (d, T) := by
  have h1 : oldOk S (T ++ G) = true := oldOk_of fun i c e => by
    obtain ⟨c', e1, e2⟩ := h i c e
    have hi := (List.getElem?_eq_some_iff.mp e1).1
    exact ⟨c', by rw [List.getElem?_append_left hi]; exact e1, e2⟩
  unfold gc
  rw [h1, hd]
  dsimp only
  rw [← hl, List.take_left']
  rfl
theorem gc_list {S T G : Store} {n : Nat} {l : List D} (hl : T.length = S.length) (h : ∀ (i : Nat) (c : Cell), S[i]? = some c → ∃ c' : Cell, T[i]? = some c' ∧ (c'.flat = true ∨ c' = c)) (hn : G[n]? = some (.lst l)) (hf : D.flatL l = true) : gc S (.ref (T.length + n)) (T ++ G) = (.ref S.length, T ++ [.lst l]) := by
  have h1 : oldOk S (T ++ G) = true := oldOk_of fun i c e => by
    obtain ⟨c', e1, e2⟩ := h i c e
    have hi := (List.getElem?_eq_some_iff.mp e1).1
    exact ⟨c', by rw [List.getElem?_append_left hi]; exact e1, e2⟩
  have h2 : (T ++ G)[T.length + n]? = some (.lst l) := by
    rw [List.getElem?_append_right (by omega)]
    simpa using hn
  unfold gc
  rw [h1]
  dsimp only
  rw [show D.flat (.ref (T.length + n)) = false from rfl]
  dsimp only
  rw [h2]
  dsimp only
  rw [hf, show decide (S.length ≤ T.length + n) = true from decide_eq_true (by omega)]
  rw [show (true && true) = true from rfl]
  dsimp only
  rw [← hl, List.take_left']
  rfl
theorem gc_flat0 {S G : Store} {d : D} (hd : d.flat = true) : gc S d (S ++ G) = (d, S) := gc_flat rfl (fun i c e => ⟨c, e, .inr rfl⟩) hd
theorem gc_list0 {S G : Store} {n : Nat} {l : List D} (hn : G[n]? = some (.lst l)) (hf : D.flatL l = true) : gc S (.ref (S.length + n)) (S ++ G) = (.ref S.length, S ++ [.lst l]) := gc_list rfl (fun i c e => ⟨c, e, .inr rfl⟩) hn hf
end
end T

set_option Elab.async false
set_option linter.all false
set_option maxRecDepth 100000
namespace T
open PySem
attribute [simp] w_ok w_err w_def w_nil w_seq w_ret w_retN w_serr w_drop w_if w_asg w_par w_aug w_sub w_var w_c w_e1 w_e2 w_lnil w_lcons w_tup w_lst w_call w_b w_mt w_ife w_and w_or w_not w_chain w_cut w_onone w_osome w_isi w_tv w_tb w_tnot w_tand w_tor w_tyes w_for w_lc w_iseq w_izip w_ienum1 w_irng1
section
variable {α β : Type} {ρ : Env} {S T : Store} {P : D → Store → Prop}
theorem gcR_eq {x : R D} {r : D} (h : goodR x fun d S2 => gc S d S2 = (r, T)) : gcR S x = .ok r T := by
  unfold gcR
  cases x with
  | ok d S2 =>
    have h : gc S d S2 = (r, T) := h
    show R.ok (gc S d S2).1 (gc S d S2).2 = _
    rw [h]
  | exc c d S2 => exact h.elim
  | err => exact h.elim
theorem gc_same {d : D} (hd : d.flat = true) : gc S d S = (d, S) := by
  have := gc_flat0 (S := S) (G := []) hd
  simpa using this
@[simp] theorem gc_bl {b : Bool} : gc S (.bl b) S = (.bl b, S) := gc_same rfl
@[simp] theorem gc_blA {b : Bool} {G : Store} : gc S (.bl b) (S ++ G) = (.bl b, S) := gc_flat0 rfl
@[simp] theorem gc_int {i : Int} : gc S (.int i) S = (.int i, S) := gc_same rfl
@[simp] theorem gc_intA {i : Int} {G : Store} : gc S (.int i) (S ++ G) = (.int i, S) := gc_flat0 rfl
@[simp] theorem gc_non  : gc S (.non) S = (.non, S) := gc_same rfl
@[simp] theorem gc_nonA  {G : Store} : gc S (.non) (S ++ G) = (.non, S) := gc_flat0 rfl
@[simp] theorem gc_str {x : List Nat} : gc S (.str x) S = (.str x, S) := gc_same rfl
@[simp] theorem gc_strA {x : List Nat} {G : Store} : gc S (.str x) (S ++ G) = (.str x, S) := gc_flat0 rfl
@[simp] theorem truth_bl {b : Bool} : truth (.bl b) S = some b := rfl
@[simp high] theorem getA0 {G : Store} : (S ++ G)[S.length]? = G[0]? := by rw [List.getElem?_append_right (by omega)]; congr 1; omega
@[simp high] theorem getA1 {G : Store} : (S ++ G)[S.length + 1]? = G[1]? := by rw [List.getElem?_append_right (by omega)]; congr 1; omega
@[simp high] theorem getA2 {G : Store} : (S ++ G)[S.length + 1 + 1]? = G[2]? := by rw [List.getElem?_append_right (by omega)]; congr 1; omega
@[simp high] theorem getA3 {G : Store} : (S ++ G)[S.length + 1 + 1 + 1]? = G[3]? := by rw [List.getElem?_append_right (by omega)]; congr 1; omega
@[simp high] theorem getA4 {G : Store} : (S ++ G)[S.length + 1 + 1 + 1 + 1]? = G[4]? := by rw [List.getElem?_append_right (by omega)]; congr 1; omega
@[simp high] theorem getA5 {G : Store} : (S ++ G)[S.length + 1 + 1 + 1 + 1 + 1]? = G[5]? := by rw [List.getElem?_append_right (by omega)]; congr 1; omega
@[simp high] theorem getA6 {G : Store} : (S ++ G)[S.length + 1 + 1 + 1 + 1 + 1 + 1]? = G[6]? := by rw [List.getElem?_append_right (by omega)]; congr 1; omega
@[simp high] theorem getB2 {G : Store} : (S ++ G)[S.length + 2]? = G[2]? := by rw [List.getElem?_append_right (by omega)]; congr 1; omega
@[simp high] theorem getB3 {G : Store} : (S ++ G)[S.length + 3]? = G[3]? := by rw [List.getElem?_append_right (by omega)]; congr 1; omega
@[simp high] theorem getB4 {G : Store} : (S ++ G)[S.length + 4]? = G[4]? := by rw [List.getElem?_append_right (by omega)]; congr 1; omega
@[simp high] theorem getB5 {G : Store} : (S ++ G)[S.length + 5]? = G[5]? := by rw [List.getElem?_append_right (by omega)]; congr 1; omega
@[simp high] theorem getB6 {G : Store} : (S ++ G)[S.length + 6]? = G[6]? := by rw [List.getElem?_append_right (by omega)]; congr 1; omega
/-- old cells stand, or are flat now -/
def Keep (S T : Store) : Prop := T.length = S.length ∧ ∀ (i : Nat) (c : Cell), S[i]? = some c → ∃ c' : Cell, T[i]? = some c' ∧ (c'.flat = true ∨ c' = c)
theorem Keep.refl (S : Store) : Keep S S := ⟨rfl, fun i c e => ⟨c, e, .inr rfl⟩⟩
theorem Keep.trans {S T U : Store} (a : Keep S T) (b : Keep T U) : Keep S U := ⟨b.1.trans a.1, fun i c e => by
  obtain ⟨c1, e1, h1⟩ := a.2 i c e
  obtain ⟨c2, e2, h2⟩ := b.2 i c1 e1
  refine ⟨c2, e2, ?_⟩
  rcases h2 with h2 | h2
  · exact .inl h2
  · subst h2; exact h1⟩
theorem Keep.set {S : Store} {n : Nat} {c : Cell} (h : c.flat = true) : Keep S (S.set n c) := ⟨by simp, fun i c0 e => by
  by_cases hi : n = i
  · subst hi
    have := (List.getElem?_eq_some_iff.mp e).1
    exact ⟨c, by rw [List.getElem?_set_self this], .inl h⟩
  · exact ⟨c0, by rw [List.getElem?_set_ne hi]; exact e, .inr rfl⟩⟩
theorem Keep.gcf {G : Store} {d : D} (k : Keep S T) (hd : d.flat = true) : gc S d (T ++ G) = (d, T) := gc_flat k.1 k.2 hd
theorem Keep.gcf0 {d : D} (k : Keep S T) (hd : d.flat = true) : gc S d T = (d, T) := by
  have := k.gcf (G := []) hd
  simpa using this
theorem Keep.gcl {G : Store} {n : Nat} {l : List D} (k : Keep S T) (hn : G[n]? = some (.lst l)) (hf : D.flatL l = true) : gc S (.ref (T.length + n)) (T ++ G) = (.ref S.length, T ++ [.lst l]) := gc_list k.1 k.2 hn hf
/-! ### rows -/
theorem listD_len {d : D} {S : Store} {l : List D} (h : listD d S = some l) : fLen [d] S = .ok (.int (l.length : Int)) S := by
  cases d <;> first | cases h | skip
  · rfl
  · rename_i n
    have h : cellL S[n]? = some l := h
    unfold fLen
    dsimp only
    rw [h]
theorem listD_seq {d : D} {S : Store} {l : List D} (h : listD d S = some l) : ∃ J, seqIt d S = some J ∧ J.n = l.length ∧ ∀ S', listD d S' = some l → ∀ i, J.at_ i S' = some l[i]? := by
  cases d <;> first | cases h | skip
  · exact ⟨_, rfl, rfl, fun S' h' i => rfl⟩
  · rename_i n
    have h : cellL S[n]? = some l := h
    refine ⟨⟨l.length, fun i S' => (cellL S'[n]?).map fun l' => l'[i]?⟩, ?_, rfl, fun S' h' i => ?_⟩
    · show (cellL S[n]?).map _ = _
      rw [h]; rfl
    · have h' : cellL S'[n]? = some l := h'
      show (cellL S'[n]?).map _ = _
      rw [h']; rfl
theorem listD_src {d : D} {S : Store} {l : List D} (h : listD d S = some l) : srcL d S = some l := by
  cases d <;> first | cases h | skip
  · rfl
  · exact h
theorem listD_ty {d : D} {S : Store} {l : List D} (h : listD d S = some l) : ∃ t, tyD d S = some t ∧ (t = "list" ∨ t = "tuple") := by
  cases d <;> first | cases h | skip
  · exact ⟨_, rfl, .inr rfl⟩
  · rename_i n
    have h : cellL S[n]? = some l := h
    refine ⟨"list", ?_, .inl rfl⟩
    show (cellL S[n]?).map _ = _
    rw [h]; rfl
theorem listD_app {d : D} {S G : Store} {l : List D} (h : listD d S = some l) : listD d (S ++ G) = some l := by
  cases d <;> first | cases h | skip
  · rfl
  · rename_i n
    have h : cellL S[n]? = some l := h
    show cellL (S ++ G)[n]? = some l
    have hn : n < S.length := by
      apply Nat.lt_of_not_le
      intro z
      rw [List.getElem?_eq_none z] at h
      cases h
    rw [List.getElem?_append_left hn]
    exact h
theorem listD_set {d : D} {S : Store} {n : Nat} {c : Cell} {l : List D} (h : listD d S = some l) (hn : d ≠ .ref n) : listD d (S.set n c) = some l := by
  cases d <;> first | cases h | skip
  · rfl
  · rename_i k
    have hk : n ≠ k := fun e => hn (by rw [e])
    show cellL (S.set n c)[k]? = some l
    rw [List.getElem?_set_ne hk]
    exact h
theorem intsD_map : ∀ ns : List Int, intsD (ns.map D.int) = some ns
  | [] => rfl
  | n :: r => by show (intsD (r.map D.int)).map _ = _; rw [intsD_map r]; rfl
theorem blsD_map : ∀ ns : List Bool, blsD (ns.map D.bl) = some ns
  | [] => rfl
  | n :: r => by show (blsD (r.map D.bl)).map _ = _; rw [blsD_map r]; rfl
theorem strsD_map : ∀ ns : List (List Nat), strsD (ns.map D.str) = some ns
  | [] => rfl
  | n :: r => by show (strsD (r.map D.str)).map _ = _; rw [strsD_map r]; rfl
theorem flatL_int (ns : List Int) : D.flatL (ns.map D.int) = true := by
  induction ns with
  | nil => rfl
  | cons n r ih => simp [D.flatL, D.flat, ih]
theorem flatL_bl (ns : List Bool) : D.flatL (ns.map D.bl) = true := by
  induction ns with
  | nil => rfl
  | cons n r ih => simp [D.flatL, D.flat, ih]
theorem toPys_int (S : Store) : ∀ ns : List Int, toPys S (ns.map D.int) = some (ns.map PyData.int)
  | [] => rfl
  | n :: r => by
    have ih := toPys_int S r
    unfold toPys at ih ⊢
    show ((toPyG (toPyR 8 S) (.int n)).bind fun a => (toPysG (toPyR 8 S) (r.map D.int)).map fun b => a :: b) = _
    rw [ih]; rfl
theorem toPy_ref {S : Store} {n : Nat} {ns : List Int} (h : cellL S[n]? = some (ns.map D.int)) : toPy S (.ref n) = some (.list (ns.map PyData.int)) := by
  have key : ∀ (k : Nat) (l : List Int), toPysG (toPyR k S) (l.map D.int) = some (l.map PyData.int) := by
    intro k l
    induction l with
    | nil => rfl
    | cons a r ih =>
      show ((toPyG (toPyR k S) (.int a)).bind fun a => (toPysG (toPyR k S) (r.map D.int)).map fun b => a :: b) = _
      rw [ih]; rfl
  show (cellL S[n]?).bind (fun l => (toPysG (toPyR 7 S) l).map PyData.list) = _
  rw [h]
  show (toPysG (toPyR 7 S) (ns.map D.int)).map PyData.list = _
  rw [key]; rfl
theorem shaped_ints (ns : List Int) : SeqAt.shaped (.list (ns.map PyData.int)) = true := by
  have h1 : ∀ l : List Int, PyData.canLayAll0 (l.map PyData.int) = true := by
    intro l
    induction l with
    | nil => rfl
    | cons a r ih =>
      show (PyData.canLay0 (.int a) && PyData.canLayAll0 (r.map PyData.int)) = true
      rw [ih]; rfl
  have h2 : ∀ l : List Int, PyData.depthAll (l.map PyData.int) = 0 := by
    intro l
    induction l with
    | nil => rfl
    | cons a r ih =>
      show max (PyData.depth (.int a)) (PyData.depthAll (r.map PyData.int)) = 0
      rw [ih]; rfl
  unfold SeqAt.shaped
  rw [Bool.and_eq_true]
  refine ⟨h1 ns, decide_eq_true ?_⟩
  show PyData.depthAll (ns.map PyData.int) + 1 ≤ 64
  rw [h2]; decide
theorem eqv_ints : ∀ (a b : List Int), PyData.eqv (.list (a.map PyData.int)) (.list (b.map PyData.int)) = decide (a = b) := by
  have key : ∀ (a b : List Int), PyData.eqvAll (a.map PyData.int) (b.map PyData.int) = decide (a = b) := by
    intro a
    induction a with
    | nil => intro b; cases b <;> rfl
    | cons x r ih =>
      intro b
      cases b with
      | nil => rfl
      | cons y s =>
        show (PyData.eqv (.int x) (.int y) && PyData.eqvAll (r.map PyData.int) (s.map PyData.int)) = _
        rw [ih]
        have : PyData.eqv (.int x) (.int y) = decide (x = y) := by
          first | rfl | (show (x == y) = _; by_cases h : x = y <;> simp [h])
        rw [this]
        by_cases h1 : x = y <;> by_cases h2 : r = s <;> simp [h1, h2]
  intro a b
  exact key a b
theorem bEq_lists {S : Store} {m n : Nat} {a b : List Int} (h1 : cellL S[m]? = some (a.map D.int)) (h2 : cellL S[n]? = some (b.map D.int)) : bEq (.ref m) (.ref n) S = .ok (.bl (decide (a = b))) S := by
  unfold bEq
  rw [toPy_ref h1, toPy_ref h2]
  dsimp only
  rw [if_pos ⟨shaped_ints a, shaped_ints b⟩, eqv_ints]
theorem bNe_lists {S : Store} {m n : Nat} {a b : List Int} (h1 : cellL S[m]? = some (a.map D.int)) (h2 : cellL S[n]? = some (b.map D.int)) : bNe (.ref m) (.ref n) S = .ok (.bl (!decide (a = b))) S := by
  unfold bNe
  rw [toPy_ref h1, toPy_ref h2]
  dsimp only
  rw [if_pos ⟨shaped_ints a, shaped_ints b⟩, eqv_ints]
theorem bEq_int {S : Store} {a b : Int} : bEq (.int a) (.int b) S = .ok (.bl (decide (a = b))) S := by
  have : PyData.eqv (.int a) (.int b) = decide (a = b) := by
    first | rfl | (show (a == b) = _; by_cases h : a = b <;> simp [h])
  unfold bEq
  show (if SeqAt.shaped (.int a) = true ∧ SeqAt.shaped (.int b) = true then R.ok (D.bl (PyData.eqv (.int a) (.int b))) S else .err) = _
  rw [if_pos ⟨rfl, rfl⟩, this]
theorem bNe_int {S : Store} {a b : Int} : bNe (.int a) (.int b) S = .ok (.bl (!decide (a = b))) S := by
  have : PyData.eqv (.int a) (.int b) = decide (a = b) := by
    first | rfl | (show (a == b) = _; by_cases h : a = b <;> simp [h])
  unfold bNe
  show (if SeqAt.shaped (.int a) = true ∧ SeqAt.shaped (.int b) = true then R.ok (D.bl (!PyData.eqv (.int a) (.int b))) S else .err) = _
  rw [if_pos ⟨rfl, rfl⟩, this]
/-! ### a comprehension that touches nothing -/
theorem w_lcmap {at_ : Nat → Store → Option (Option D)} {t : Tg} {e : Ev} {l : List D} {f : D → D} {Q : List D → Store → Prop} {n : Nat} (hn : n = l.length) (hat : ∀ j, j ≤ l.length → at_ j S = some l[j]?) (hl : l.length ≤ lineN)
    (he : ∀ d ∈ l, ∃ ρ1, t d ρ S = some ρ1 ∧ goodR (e ρ1 S) fun y S2 => y = f d ∧ S2 = S) (hQ : Q (l.map f) S) : goodR (lcL at_ t tYes e ρ n 0 [] S) Q := by
  refine w_lcL l (fun i acc S' => S' = S ∧ acc = (l.take i).map f) (fun i acc S' h hj => by rw [h.1]; exact hat i hj) hl (fun i acc S' h => ?_) (fun i d acc S' hd h => ?_) (fun acc S' h => ?_) n 0 [] S (by omega) (Nat.zero_le _) ⟨rfl, rfl⟩
  · rw [h.2, List.length_map, List.length_take]; omega
  · obtain ⟨rfl, rfl⟩ := h
    obtain ⟨ρ1, h1, h2⟩ := he d (List.mem_of_getElem? hd)
    refine ⟨ρ1, h1, ?_⟩
    simp only [w_tyes, if_true]
    refine h2.mono fun y S2 h3 => ?_
    obtain ⟨rfl, rfl⟩ := h3
    refine ⟨rfl, ?_⟩
    obtain ⟨hi, rfl⟩ := List.getElem?_eq_some_iff.mp hd
    rw [List.take_succ_eq_append_getElem hi, List.map_append]
    rfl
  · obtain ⟨rfl, rfl⟩ := h
    rw [List.take_length]
    exact hQ
end
end T

set_option Elab.async false
set_option linter.all false
set_option maxRecDepth 100000
namespace T
open PySem
section
variable {ρ : Env} {S : Store}
def enL (c : Int) (l : List D) : List D := l.zipIdx.map fun p => .tup [.int (c + (p.2 : Int)), p.1]
theorem enL_len {c : Int} {l : List D} : (enL c l).length = l.length := by simp [enL]
theorem enL_get {c : Int} {l : List D} {i : Nat} : (enL c l)[i]? = l[i]?.map fun x => .tup [.int (c + (i : Int)), x] := by
  unfold enL
  rw [List.getElem?_map, List.getElem?_zipIdx]
  cases l[i]? <;> simp
theorem en_J {d : D} {c : Int} {l : List D} (h : listD d S = some l) : ∃ J, enIt c d S = some J ∧ J.n = l.length ∧ ∀ S', listD d S' = some l → ∀ i, i ≤ l.length → J.at_ i S' = some (enL c l)[i]? := by
  have hs := listD_src h
  refine ⟨⟨l.length, fun i S' => match srcL d S' with
    | some l => enAt c l i
    | none => none⟩, ?_, rfl, fun S' h' i hi => ?_⟩
  · unfold enIt; rw [hs] <;> rfl
  · dsimp only
    rw [listD_src h']
    dsimp only
    unfold enAt
    rw [enL_get]
    cases e : l[i]? with
    | none =>
      have := List.getElem?_eq_none_iff.mp e
      dsimp only
      rw [if_pos (by omega)]
      rfl
    | some x => rfl
def zipL (l l' : List D) : List D := List.zipWith (fun a b => .tup [a, b]) l l'
theorem zip_J {b : Bool} {x y : D} {l l' : List D} (h : srcL x S = some l) (h' : srcL y S = some l') (hl : l.length = l'.length) : ∃ J, zipIt b x y S = some J ∧ J.n = l.length ∧ ∀ S', srcL x S' = some l → srcL y S' = some l' → ∀ i, i ≤ l.length → J.at_ i S' = some (zipL l l')[i]? := by
  refine ⟨⟨min l.length l'.length, fun i S' => match srcL x S', srcL y S' with
    | some l, some l' => zipAt b l l' i
    | _, _ => none⟩, ?_, by show min l.length l'.length = _; omega, fun S' h1 h2 i hi => ?_⟩
  · unfold zipIt; rw [h, h'] <;> rfl
  · dsimp only
    rw [h1, h2]
    dsimp only
    unfold zipAt zipL
    rw [List.getElem?_zipWith]
    by_cases hlt : i < l.length
    · rw [List.getElem?_eq_getElem hlt, List.getElem?_eq_getElem (show i < l'.length by omega)]
    · rw [List.getElem?_eq_none (by omega), List.getElem?_eq_none (by omega)]
      dsimp only
      rw [if_pos ⟨hi, by omega, fun _ => hl⟩]
theorem zipL_len {l l' : List D} (hl : l.length = l'.length) : (zipL l l').length = l.length := by simp [zipL, hl]
theorem zipL_get {l l' : List D} {i : Nat} {d : D} (h : (zipL l l')[i]? = some d) : ∃ a b, l[i]? = some a ∧ l'[i]? = some b ∧ d = .tup [a, b] := by
  unfold zipL at h
  rw [List.getElem?_zipWith] at h
  cases e1 : l[i]? with
  | none => rw [e1] at h; simp at h
  | some a =>
    cases e2 : l'[i]? with
    | none => rw [e1, e2] at h; simp at h
    | some b => rw [e1, e2] at h; exact ⟨a, b, rfl, rfl, by simpa using h.symm⟩
end
end T

set_option Elab.async false
set_option linter.all false
set_option maxRecDepth 100000
namespace T
open PySem
section
variable {S G : Store} {a b c : Cell}
@[simp] theorem setA0 : (S ++ a :: G).set S.length b = S ++ b :: G := by rw [List.set_append_right _ _ (Nat.le_refl _)]; simp
@[simp] theorem setA1 : (S ++ a :: c :: G).set (S.length + 1) b = S ++ a :: b :: G := by rw [List.set_append_right _ _ (by omega)]; simp
@[simp] theorem setA2 {d : Cell} : (S ++ a :: c :: d :: G).set (S.length + 1 + 1) b = S ++ a :: c :: b :: G := by rw [List.set_append_right _ _ (by omega)]; simp [show S.length + 1 + 1 - S.length = 2 by omega]
theorem methF_append : methF ("append" : Str) "list" = some mAppend := by kernel_rfl
theorem methF_pop : methF ("pop" : Str) "list" = some mPop := by kernel_rfl
theorem methF_extend : methF ("extend" : Str) "list" = some mExtend := by kernel_rfl
theorem methF_insert : methF ("insert" : Str) "list" = some mInsert := by kernel_rfl
theorem methF_countS : methF ("count" : Str) "str" = some mCountS := by kernel_rfl
theorem methF_countL : methF ("count" : Str) "list" = some mCountL := by kernel_rfl
theorem methF_join : methF ("join" : Str) "str" = some mJoin := by kernel_rfl
theorem cut_take {α : Type} {x : List α} {n : Int} (h : 0 ≤ n) : cutD x none (some n) = x.take n.toNat := by
  obtain ⟨k, rfl⟩ := Int.eq_ofNat_of_zero_le h
  unfold cutD
  have e1 : HT.sIx x.length 0 none = 0 := by first | rfl | simp [HT.sIx]
  have e2 : HT.sIx x.length x.length (some (k : Int)) = min k x.length := HT.sIx_nat x.length x.length k
  rw [e1, e2]
  simp
theorem cut_drop {α : Type} {x : List α} {n : Int} (h : 0 ≤ n) : cutD x (some n) none = x.drop n.toNat := by
  obtain ⟨k, rfl⟩ := Int.eq_ofNat_of_zero_le h
  unfold cutD
  have e1 : HT.sIx x.length x.length none = x.length := by first | rfl | simp [HT.sIx]
  have e2 : HT.sIx x.length 0 (some (k : Int)) = min k x.length := HT.sIx_nat x.length 0 k
  rw [e1, e2]
  by_cases hk : k ≤ x.length
  · rw [Nat.min_eq_left hk, List.take_of_length_le (by rw [List.length_drop]; omega)]
    simp
  · rw [Nat.min_eq_right (by omega)]
    rw [List.drop_eq_nil_of_le (Nat.le_refl _), List.take_nil, List.drop_eq_nil_of_le (by simp; omega)]
@[simp] theorem bAdd_int {i j : Int} : bAdd (.int i) (.int j) S = .ok (.int (i + j)) S := rfl
@[simp] theorem bIAdd_int {i j : Int} : bIAdd (.int i) (.int j) S = .ok (.int (i + j)) S := rfl
@[simp] theorem bSub_int {i j : Int} : bSub (.int i) (.int j) S = .ok (.int (i - j)) S := rfl
@[simp] theorem bMulX_int {i j : Int} (h : mulOk i j = true) : bMulX (.int i) (.int j) S = .ok (.int (i * j)) S := if_pos h
@[simp] theorem bDiv_int {i j : Int} (h : 0 < j) (h2 : j.natAbs.log2 < 9000) : bDiv (.int i) (.int j) S = .ok (.int (i / j)) S := if_pos ⟨h, h2⟩
@[simp] theorem bMod_int {i j : Int} (h : 0 < j) : bMod (.int i) (.int j) S = .ok (.int (i % j)) S := if_pos h
@[simp] theorem bPow_int {i j : Int} (h : 0 ≤ j ∧ j ≤ 1000000 ∧ i.natAbs < 18446744073709551616) : bPow (.int i) (.int j) S = .ok (.int (i ^ j.toNat)) S := if_pos h
@[simp] theorem bLt_int {i j : Int} : bLt (.int i) (.int j) S = .ok (.bl (decide (i < j))) S := rfl
@[simp] theorem bLe_int {i j : Int} : bLe (.int i) (.int j) S = .ok (.bl (decide (i ≤ j))) S := rfl
@[simp] theorem bGt_int {i j : Int} : bGt (.int i) (.int j) S = .ok (.bl (decide (j < i))) S := rfl
@[simp] theorem bGe_int {i j : Int} : bGe (.int i) (.int j) S = .ok (.bl (decide (j ≤ i))) S := rfl
@[simp] theorem fLen_str {x : List Nat} (h : x.length ≤ lineN) : fLen [.str x] S = .ok (.int (x.length : Int)) S := if_pos h
@[simp] theorem fLen_tup {x : List D} : fLen [.tup x] S = .ok (.int (x.length : Int)) S := rfl
@[simp] theorem bCut_str {x : List Nat} {lo hi : Option Int} (h : x.length ≤ lineN) : bCut (.str x) lo hi S = .ok (.str (cutD x lo hi)) S := if_pos h
@[simp] theorem kind_str {x : List Nat} : kindD (.str x) S = "str" := rfl
@[simp] theorem mCountS_one {x : List Nat} {c : Nat} : mCountS (.str x) [.str [c]] S = .ok (.int (x.count c : Nat)) S := rfl
attribute [simp] methF_append methF_pop methF_extend methF_insert methF_countS methF_countL methF_join
@[simp high] theorem w_izip2 {ρ : Env} {b : Bool} {a c : Ev} {P : It → Store → Prop} : goodR (iZip b (lCons a (lCons c lNil)) ρ S) P ↔ goodR (a ρ S) fun x S1 => goodR (c ρ S1) fun y S2 => ∃ J, zipIt b x y S2 = some J ∧ P J S2 := by
  rw [w_izip, w_lcons]
  constructor <;> intro h <;> refine h.mono fun x S1 h => ?_
  · rw [w_lcons] at h
    refine h.mono fun y S2 h => ?_
    obtain ⟨x', y', J, e, h1, h2⟩ := h
    cases e
    exact ⟨J, h1, h2⟩
  · rw [w_lcons]
    refine h.mono fun y S2 h => ?_
    obtain ⟨J, h1, h2⟩ := h
    exact ⟨x, y, J, rfl, h1, h2⟩
@[simp high] theorem w_irng1' {ρ : Env} {a : Ev} {P : It → Store → Prop} : goodR (iRng1 (lCons a lNil) ρ S) P ↔ goodR (a ρ S) fun x S1 => ∃ j, x = .int j ∧ okR j = true ∧ P (rngIt 0 j) S1 := by
  rw [w_irng1, w_lcons]
  constructor <;> intro h <;> refine h.mono fun x S1 h => ?_
  · obtain ⟨j, e, h1, h2⟩ := h
    cases e
    exact ⟨j, rfl, h1, h2⟩
  · obtain ⟨j, rfl, h1, h2⟩ := h
    exact ⟨j, rfl, h1, h2⟩
@[simp high] theorem w_ienum1' {ρ : Env} {a : Ev} {P : It → Store → Prop} : goodR (iEnum1 (lCons a lNil) ρ S) P ↔ goodR (a ρ S) fun x S1 => ∃ J, enIt 0 x S1 = some J ∧ P J S1 := by
  rw [w_ienum1, w_lcons]
  constructor <;> intro h <;> refine h.mono fun x S1 h => ?_
  · obtain ⟨x', J, e, h1, h2⟩ := h
    cases e
    exact ⟨J, h1, h2⟩
  · obtain ⟨J, h1, h2⟩ := h
    exact ⟨x, J, rfl, h1, h2⟩
end
end T

set_option Elab.async false
set_option linter.all false
set_option maxRecDepth 100000
set_option maxHeartbeats 1000000
/-! The laws' source of draws: a list of three ints. -/
namespace T
open PySem
structure Sg where
  c : Int
  x : Int
  n : Int
def sgC (σ : Sg) : Cell := .lst [.int σ.c, .int σ.x, .int σ.n]
def okG (b : Nat) (σ : Sg) : Prop := 0 ≤ σ.x ∧ σ.x < 2147483543 ∧ 0 ≤ σ.n ∧ σ.n ≤ b
theorem okG.le {b b' : Nat} {σ : Sg} (h : okG b σ) (hb : b ≤ b') : okG b' σ := ⟨h.1, h.2.1, h.2.2.1, by have := h.2.2.2; omega⟩
theorem sgC_flat (σ : Sg) : (sgC σ).flat = true := rfl
section
variable {S G : Store} {s : Nat} {c c' d e f : Cell}
theorem get_lt {i : Nat} (h : S[i]? = some c) : i < S.length := (List.getElem?_eq_some_iff.mp h).1
@[simp] theorem set_app (h : s < S.length) : (S ++ G).set s c = S.set s c ++ G := List.set_append_left _ _ h
@[simp] theorem get_set (h : s < S.length) : (S.set s c)[s]? = some c := List.getElem?_set_self h
@[simp] theorem get_app (h : s < S.length) : (S ++ G)[s]? = S[s]? := List.getElem?_append_left h
@[simp high] theorem getS0 : (S.set s c ++ G)[S.length]? = G[0]? := by rw [List.getElem?_append_right (by simp)]; congr 1; simp
@[simp high] theorem getS1 : (S.set s c ++ G)[S.length + 1]? = G[1]? := by rw [List.getElem?_append_right (by simp)]; congr 1; simp
@[simp high] theorem getS2 : (S.set s c ++ G)[S.length + 1 + 1]? = G[2]? := by rw [List.getElem?_append_right (by simp; omega)]; congr 1; simp; omega
@[simp high] theorem getS3 : (S.set s c ++ G)[S.length + 1 + 1 + 1]? = G[3]? := by rw [List.getElem?_append_right (by simp; omega)]; congr 1; simp; omega
@[simp] theorem setS0 : (S.set s c ++ d :: G).set S.length c' = S.set s c ++ c' :: G := by rw [List.set_append_right _ _ (by simp)]; simp
@[simp] theorem setS1 : (S.set s c ++ d :: e :: G).set (S.length + 1) c' = S.set s c ++ d :: c' :: G := by rw [List.set_append_right _ _ (by simp)]; simp
@[simp] theorem setS2 : (S.set s c ++ d :: e :: f :: G).set (S.length + 1 + 1) c' = S.set s c ++ d :: e :: c' :: G := by rw [List.set_append_right _ _ (by simp; omega)]; simp [show S.length + 1 + 1 - S.length = 2 by omega]
theorem gcR_good {x : R D} {P : D → Store → Prop} (h : goodR x fun d S2 => ∃ r T, gc S d S2 = (r, T) ∧ P r T) : goodR (gcR S x) P := by
  rw [gc_goodR]
  refine h.mono fun d S2 h => ?_
  obtain ⟨r, T, e, h⟩ := h
  rw [e]; exact h
theorem gc_set {r : D} (h : c.flat = true) (hr : r.flat = true) : gc S r (S.set s c) = (r, S.set s c) := (Keep.set h).gcf0 hr
theorem gc_setA {r : D} (h : c.flat = true) (hr : r.flat = true) : gc S r (S.set s c ++ G) = (r, S.set s c) := (Keep.set h).gcf hr
theorem gc_setL {n : Nat} {l : List D} (h : c.flat = true) (hn : G[n]? = some (.lst l)) (hf : D.flatL l = true) : gc S (.ref (S.length + n)) (S.set s c ++ G) = (.ref S.length, S.set s c ++ [.lst l]) := by
  have := (Keep.set (S := S) (n := s) h).gcl hn hf
  simpa using this
theorem ix_src0 {σ : Sg} (h : S[s]? = some (sgC σ)) : bIx (.ref s) (.int 0) S = .ok (.int σ.c) S := by
  unfold bIx
  dsimp only
  rw [h]; rfl
theorem ix_src1 {σ : Sg} (h : S[s]? = some (sgC σ)) : bIx (.ref s) (.int 1) S = .ok (.int σ.x) S := by
  unfold bIx
  dsimp only
  rw [h]; rfl
theorem ix_src2 {σ : Sg} (h : S[s]? = some (sgC σ)) : bIx (.ref s) (.int 2) S = .ok (.int σ.n) S := by
  unfold bIx
  dsimp only
  rw [h]; rfl
theorem set_src0 {σ : Sg} {v : Int} (h : S[s]? = some (sgC σ)) : pSet (.ref s) (.int 0) (.int v) S = some (S.set s (sgC ⟨v, σ.x, σ.n⟩)) := by
  unfold pSet
  dsimp only
  rw [h]; rfl
theorem set_src2 {σ : Sg} {v : Int} (h : S[s]? = some (sgC σ)) : pSet (.ref s) (.int 2) (.int v) S = some (S.set s (sgC ⟨σ.c, σ.x, v⟩)) := by
  unfold pSet
  dsimp only
  rw [h]; rfl
def bSource : SEv := (sSeq (sRet (eLst (lCons (e2 bMulX (eVar 0) (eB fInt (lCons (e2 bGe (eVar 0) (e2 bPow (eC (.int 10)) (eC (.int 18)))) lNil))) (lCons (e2 bMod (eVar 0) (eC (.int 2147483543))) (lCons (eC (.int 0)) lNil))))) sNil)
def bTake : SEv := (sSeq (sIf (tB (e2 bGt (e2 bIx (eVar 0) (eC (.int 0))) (eC (.int 0)))) (sSeq (sAsg (tgN 2) (e2 bMod (e2 bIx (eVar 0) (eC (.int 0))) (eVar 1))) (sSeq (sSub pSet (e2 bDiv (e2 bIx (eVar 0) (eC (.int 0))) (eVar 1)) (eVar 0) (eC (.int 0))) (sSeq (sRet (eVar 2)) sNil))) sNil) (sSeq (sSub pSet (e2 bAdd (e2 bIx (eVar 0) (eC (.int 2))) (eC (.int 1))) (eVar 0) (eC (.int 2))) (sSeq (sAsg (tgN 3) (e2 bMod (e2 bMulX (e2 bAdd (e2 bAdd (e2 bIx (eVar 0) (eC (.int 1))) (e2 bMulX (eC (.int 32452843)) (e2 bIx (eVar 0) (eC (.int 2))))) (eC (.int 1))) (eC (.int 48271))) (eC (.int 2147483647)))) (sSeq (sAsg (tgN 3) (e2 bMod (e2 bMulX (eVar 3) (e2 bAdd (e2 bDiv (eVar 3) (eC (.int 1021))) (eC (.int 69621)))) (eC (.int 2147483629)))) (sSeq (sRet (e2 bMod (e2 bDiv (e2 bMod (e2 bMulX (eVar 3) (e2 bAdd (e2 bDiv (eVar 3) (eC (.int 2053))) (eC (.int 40692)))) (eC (.int 2147483399))) (eC (.int 3))) (eVar 1))) sNil)))))
theorem mulOk_lt {a b : Int} (ha : a.natAbs < 2 ^ 64) (hb : b.natAbs < 2 ^ 64) : mulOk a b = true := by
  have key : ∀ n : Nat, n < 2 ^ 64 → n.log2 < 64 := fun n h => by
    by_cases e : n = 0
    · subst e; decide
    · exact (Nat.log2_lt e).mpr h
  have h1 := key _ ha
  have h2 := key _ hb
  exact decide_eq_true (by omega)
theorem dv1 {i : Int} : bDiv (.int i) (.int 1021) S = .ok (.int (i / 1021)) S := bDiv_int (by decide) (by decide +kernel)
theorem dv2 {i : Int} : bDiv (.int i) (.int 2053) S = .ok (.int (i / 2053)) S := bDiv_int (by decide) (by decide +kernel)
theorem dv3 {i : Int} : bDiv (.int i) (.int 3) S = .ok (.int (i / 3)) S := bDiv_int (by decide) (by decide +kernel)
theorem take_ok {v : Int} {σ : Sg} {b : Nat} (hs : S[s]? = some (sgC σ)) (hb : okG b σ) (hb' : b < 1000000000) (hv : 0 < v) (hv2 : v.natAbs.log2 < 9000) :
    goodR (gcR S (defF 4 bTake [.ref s, .int v] S)) fun r T => ∃ i σ', r = .int i ∧ 0 ≤ i ∧ i < v ∧ T = S.set s (sgC σ') ∧ okG (b + 1) σ' := by
  apply gcR_good
  obtain ⟨c, x, n⟩ := σ
  obtain ⟨h1, h2, h3, h4⟩ := hb
  dsimp only at h1 h2 h3 h4
  have hl := get_lt hs
  by_cases hc : 0 < c
  · simp [bTake, hc, ix_src0 hs, hv, hv2, tgN, set_src0 hs]
    exact ⟨_, _, gc_set (sgC_flat _) rfl, _, rfl, Int.emod_nonneg _ (by omega), Int.emod_lt_of_pos _ hv, _, rfl, h1, h2, h3, by dsimp only; omega⟩
  · have hs' : ∀ σ', (S.set s (sgC σ'))[s]? = some (sgC σ') := fun σ' => get_set hl
    have m1 : mulOk 32452843 (n + 1) = true := mulOk_lt (by decide) (by omega)
    have m2 : mulOk (x + 32452843 * (n + 1) + 1) 48271 = true := mulOk_lt (by omega) (by decide)
    simp [bTake, hc, ix_src0 hs, ix_src2 hs, set_src2 hs, ix_src1 (hs' _), ix_src2 (hs' _), m1, m2, tgN]
    generalize hy : (x + 32452843 * (n + 1) + 1) * 48271 % 2147483647 = y
    have y0 : 0 ≤ y ∧ y < 2147483647 := by omega
    have m3 : mulOk y (y / 1021 + 69621) = true := mulOk_lt (by omega) (by omega)
    simp [m3, dv1]
    generalize hz : y * (y / 1021 + 69621) % 2147483629 = z
    have z0 : 0 ≤ z ∧ z < 2147483629 := by rw [← hz]; exact ⟨Int.emod_nonneg _ (by decide), Int.emod_lt_of_pos _ (by decide)⟩
    have m4 : mulOk z (z / 2053 + 40692) = true := mulOk_lt (by omega) (by omega)
    simp [m4, hv, hv2, dv2, dv3]
    exact ⟨_, _, gc_set (sgC_flat _) rfl, _, rfl, Int.emod_nonneg _ (by omega), Int.emod_lt_of_pos _ hv, _, rfl, h1, h2, by dsimp only; omega, by dsimp only; omega⟩
end
end T

set_option Elab.async false
set_option linter.all false
set_option maxRecDepth 100000
set_option maxHeartbeats 1000000
/-! pick, shuffled, ranking, source -/
namespace T
open PySem L2
theorem log_small' {n : Nat} (h : n ≤ lineN) : n.log2 < 9000 := by
  by_cases e : n = 0
  · subst e; decide
  · exact (Nat.log2_lt e).mpr (Nat.lt_of_le_of_lt h (by unfold lineN; exact Nat.lt_of_lt_of_le (show 16777216 < 2 ^ 25 by decide) (Nat.pow_le_pow_right (by decide) (by decide))))
theorem atI_get {α : Type} {l : List α} {i : Int} (h0 : 0 ≤ i) (h1 : i < l.length) : ∃ y, atI l i = some y ∧ l[i.toNat]? = some y := by
  unfold atI ixN
  rw [if_pos h0, if_pos (by omega)]
  exact ⟨l[i.toNat]'(by omega), by simp [List.getElem?_eq_getElem (show i.toNat < l.length by omega)], List.getElem?_eq_getElem _⟩
theorem ixN_nat {n : Nat} {i : Int} (h0 : 0 ≤ i) (h1 : i < n) : ixN n i = some i.toNat := by
  unfold ixN
  rw [if_pos h0, if_pos (by omega)]
theorem era_map {α β : Type} (f : α → β) : ∀ (l : List α) (i : Nat), (l.map f).eraseIdx i = (l.eraseIdx i).map f
  | [], _ => rfl
  | _ :: _, 0 => rfl
  | a :: l, i + 1 => by
    show f a :: (l.map f).eraseIdx i = f a :: (l.eraseIdx i).map f
    rw [era_map f l i]
theorem era_perm {α : Type} : ∀ {l : List α} {i : Nat} (h : i < l.length), (l[i] :: l.eraseIdx i).Perm l
  | [], _, h => absurd h (by simp)
  | _ :: _, 0, _ => List.Perm.refl _
  | a :: l, i + 1, h => (List.Perm.swap a (l[i]'(by simpa using h)) _).trans ((era_perm (l := l) (i := i) (by simpa using h)).cons a)
section
variable {S G : Store} {s : Nat}
def tk : FSem := defF 4 bTake
def bPick (tk : FSem) : SEv := (sSeq (sRet (e2 bIx (eVar 1) (eCall 2 tk (lCons (eVar 0) (lCons (eB fLen (lCons (eVar 1) lNil)) lNil))))) sNil)
def bShuf (tk : FSem) : SEv := (sSeq (sPar (lCons (eB fList (lCons (eVar 1) lNil)) (lCons (eLst lNil) lNil)) (tgCons (tgN 2) (tgCons (tgN 3) tgNil))) (sSeq (sWhile (tB (e2 bNe (eVar 2) (eLst lNil))) (sSeq (sDrop (eMt (methF ("append" : Str)) (eVar 3) (lCons (eMt (methF ("pop" : Str)) (eVar 2) (lCons (eCall 2 tk (lCons (eVar 0) (lCons (eB fLen (lCons (eVar 2) lNil)) lNil))) lNil)) lNil))) sNil)) (sSeq (sRet (eVar 3)) sNil)))
def bRank (sh : FSem) : SEv := (sSeq (sRet (eB fTuple (lCons (eCall 2 sh (lCons (eVar 0) (lCons (eB fRng (lCons (eVar 1) lNil)) lNil))) lNil))) sNil)
theorem ix_row {d : D} {l : List D} {i : Int} (h : listD d S = some l) : bIx d (.int i) S = match atI l i with | some y => .ok y S | none => .err := by
  cases d <;> first | cases h | skip
  · rfl
  · rename_i n
    have h : cellL S[n]? = some l := h
    unfold bIx
    dsimp only
    rw [h]; rfl
theorem pick_ok {σ : Sg} {b : Nat} {d : D} {l : List D} (hs : S[s]? = some (sgC σ)) (hb : okG b σ) (hb' : b < 1000000000) (hl : listD d S = some l) (hd : d ≠ .ref s) (h0 : 0 < l.length) (h1 : l.length ≤ lineN) (hf : D.flatL l = true) :
    goodR (gcR S (defF 2 (bPick (defF 4 bTake)) [.ref s, d] S)) fun r T => r ∈ l ∧ ∃ σ', T = S.set s (sgC σ') ∧ okG (b + 1) σ' := by
  apply gcR_good
  have hlen := listD_len hl
  simp [bPick, hlen]
  refine (take_ok hs hb hb' (by omega) (by simpa using log_small' h1)).mono fun r T h => ?_
  obtain ⟨i, σ', rfl, hi0, hi1, rfl, ho⟩ := h
  obtain ⟨y, e1, e2⟩ := atI_get hi0 hi1
  rw [ix_row (listD_set hl hd), e1]
  have hm := List.mem_of_getElem? e2
  have hyf : y.flat = true := by
    clear e1 e2 hlen h0 h1 hl hi1
    induction l with
    | nil => cases hm
    | cons a r ih =>
      rw [D.flatL, Bool.and_eq_true] at hf
      rcases List.mem_cons.mp hm with rfl | hm
      · exact hf.1
      · exact ih hf.2 hm
  exact ⟨_, _, gc_set (sgC_flat _) hyf, hm, _, rfl, ho⟩
theorem shuf_ok {σ : Sg} {b : Nat} {d : D} {l : List Int} (hs : S[s]? = some (sgC σ)) (hb : okG b σ) (hb' : b + l.length < 1000000000) (hl : listD d S = some (l.map D.int)) (h1 : l.length ≤ 100000) :
    goodR (gcR S (defF 4 (bShuf (defF 4 bTake)) [.ref s, d] S)) fun r T => ∃ (σ' : Sg) (q : List Int), q.Perm l ∧ r = .ref S.length ∧ T = S.set s (sgC σ') ++ [.lst (q.map D.int)] ∧ okG (b + l.length) σ' := by
  apply gcR_good
  have hlt := get_lt hs
  simp [bShuf, fList, hl, tgCons, tgN, tgNil]
  refine w_while (fun k ρ S' => ∃ (σ' : Sg) (p q : List Int) (G : Store), S' = S.set s (sgC σ') ++ .lst (p.map D.int) :: .lst (q.map D.int) :: G ∧ p.length = k ∧ (q ++ p).Perm l ∧ okG (b + q.length) σ' ∧ ρ = [some (.ref s), some d, some (.ref S.length), some (.ref (S.length + 1))]) l.length (by omega) ⟨σ, l, [], [], ?_, rfl, by simp, by simpa using hb, rfl⟩ fun k ρ S' hi => ?_
  · rw [show S.set s (sgC σ) = S by
      apply List.ext_getElem?
      intro i
      by_cases h : s = i
      · subst h; rw [get_set hlt, hs]
      · rw [List.getElem?_set_ne h]]
    rfl
  · obtain ⟨σ', p, q, G, rfl, hk, hp, ho, rfl⟩ := hi
    have hlen := hp.length_eq
    rw [List.length_append] at hlen
    generalize hS1 : S.set s (sgC σ') ++ .lst (p.map D.int) :: .lst (q.map D.int) :: G ++ [.lst []] = S1
    have e1 : cellL S1[S.length]? = some (p.map D.int) := by rw [← hS1]; simp [cellL]
    have e2 : cellL S1[(S.set s (sgC σ') ++ .lst (p.map D.int) :: .lst (q.map D.int) :: G).length]? = some (([] : List Int).map D.int) := by rw [← hS1, List.getElem?_append_right (Nat.le_refl _)]; simp [cellL]
    have e3 := bNe_lists e1 e2
    simp only [w_tb, w_e2, w_var, w_lst, w_lnil]
    refine ⟨_, rfl, by simp, ?_⟩
    rw [hS1, e3]
    refine ⟨_, rfl, ?_⟩
    have hs1 : S1 = S.set s (sgC σ') ++ .lst (p.map D.int) :: .lst (q.map D.int) :: (G ++ [.lst []]) := by rw [← hS1]; simp
    clear hS1 e1 e2 e3
    subst hs1
    by_cases hz : p = []
    · subst hz
      have : q.length = l.length := by simpa using hlen
      simp
      refine ⟨_, _, gc_setL (n := 1) (sgC_flat _) rfl (flatL_int _), σ', q, by simpa using hp, rfl, rfl, by rw [← this]; exact ho⟩
    · have hpl : 0 < p.length := by
        rcases p with _ | ⟨a, r⟩
        · exact absurd rfl hz
        · simp
      have hfl : fLen [.ref S.length] (S.set s (sgC σ') ++ .lst (p.map D.int) :: .lst (q.map D.int) :: (G ++ [.lst []])) = .ok (.int (p.length : Int)) (S.set s (sgC σ') ++ .lst (p.map D.int) :: .lst (q.map D.int) :: (G ++ [.lst []])) := by
        have := listD_len (d := .ref S.length) (S := S.set s (sgC σ') ++ .lst (p.map D.int) :: .lst (q.map D.int) :: (G ++ [.lst []])) (l := p.map D.int) (by simp [listD, cellL])
        simpa using this
      simp [hz, kindD, hfl]
      refine ⟨by omega, ?_⟩
      refine (take_ok (σ := σ') (b := b + q.length) (by simp [hlt]) ho (by omega) (by omega) (by simpa using log_small' (by unfold lineN; omega))).mono fun r T h => ?_
      obtain ⟨i, σ'', rfl, hi0, hi1, rfl, ho'⟩ := h
      obtain ⟨y, e1, e2⟩ := atI_get hi0 hi1
      have hix : ixN p.length i = some i.toNat := ixN_nat hi0 hi1
      have hq : q.length < lineN := by unfold lineN; omega
      have hi2 : i.toNat < p.length := by omega
      have hi3 : i.toNat < (p.map D.int).length := by simpa using hi2
      have hy : p[i.toNat] = y := by
        have := List.getElem?_eq_getElem hi2
        rw [e2] at this
        exact (Option.some.inj this).symm
      simp [hlt, mPop, mAppend, hix, e2, hi0, show i < 9223372036854775808 by omega, show -9223372036854775808 ≤ i by omega, hq]
      refine ⟨σ'', p.eraseIdx i.toNat, q ++ [y], ⟨G ++ [.lst []], by simp [era_map]⟩, ?_, ?_, ?_⟩
      · rw [List.length_eraseIdx_of_lt hi2]; omega
      · refine List.Perm.trans ?_ hp
        rw [List.append_assoc]
        refine List.Perm.append_left _ ?_
        rw [← hy]
        exact era_perm hi2
      · rw [List.length_append]; exact ho'.le (by simp; omega)
def rI (n : Nat) : List Int := (List.range n).map fun i : Nat => (i : Int)
theorem rngD_rI (n : Nat) : rngD 0 (n : Int) = (rI n).map D.int := by
  unfold rngD rI
  simp
theorem rank_ok {σ : Sg} {b n : Nat} (hs : S[s]? = some (sgC σ)) (hb : okG b σ) (hb' : b + n < 1000000000) (hn : n ≤ 1000) :
    goodR (gcR S (defF 2 (bRank (defF 4 (bShuf (defF 4 bTake)))) [.ref s, .int (n : Int)] S)) fun r T => ∃ (σ' : Sg) (q : List Int), q.Perm (rI n) ∧ r = .tup (q.map D.int) ∧ T = S.set s (sgC σ') ∧ okG (b + n) σ' := by
  have key : ∀ (x : R D) (P : D → Store → Prop), (goodR x fun d S2 => ∃ r T, gc S d S2 = (r, T) ∧ P r T) → goodR (gcR S x) P := fun x P h => gcR_good h
  refine key _ _ ?_
  have hlt := get_lt hs
  have h1 : okR (n : Int) = true := by unfold okR; simp; omega
  have h2 : n ≤ lineN := by unfold lineN; omega
  have hl : (rI n).length = n := by simp [rI]
  simp [bRank, fRng, h1, h2, rngD_rI]
  refine (shuf_ok (σ := σ) (b := b) (l := rI n) (by rw [get_app hlt]; exact hs) hb (by omega) (by simp [listD, cellL]) (by omega)).mono fun r T h => ?_
  obtain ⟨σ', q, hq, rfl, rfl, ho⟩ := h
  have e : fTuple [.ref (S ++ [Cell.lst ((rI n).map D.int)]).length] ((S ++ [Cell.lst ((rI n).map D.int)]).set s (sgC σ') ++ [.lst (q.map D.int)]) = .ok (.tup (q.map D.int)) (S.set s (sgC σ') ++ [Cell.lst ((rI n).map D.int), .lst (q.map D.int)]) := by
    simp [fTuple, listD, hlt, cellL]
  rw [e]
  rw [hl] at ho
  exact ⟨_, _, gc_setA (sgC_flat _) (by simp [D.flat, flatL_int]), σ', q, hq, rfl, rfl, ho⟩
theorem source_ok {c : Int} (hc : c.natAbs.log2 < 100000000) : goodR (gcR S (defF 1 bSource [.int c] S)) fun r T => ∃ σ, r = .ref S.length ∧ T = S ++ [sgC σ] ∧ okG 0 σ := by
  apply gcR_good
  have m0 : ∀ v : Int, v = 0 ∨ v = 1 → mulOk c v = true := by
    intro v hv
    unfold mulOk
    rcases hv with rfl | rfl
    · rw [show (0 : Int).natAbs.log2 = 0 by decide]; exact decide_eq_true (by omega)
    · rw [show (1 : Int).natAbs.log2 = 0 by decide]; exact decide_eq_true (by omega)
  have key : ∀ v : Int, v = 0 ∨ v = 1 → goodR (bMulX (.int c) (.int v) S) fun x S1 => x = .int (c * v) ∧ S1 = S := by
    intro v hv
    rw [bMulX_int (m0 v hv)]; exact ⟨rfl, rfl⟩
  have hm : 0 ≤ c % 2147483543 ∧ c % 2147483543 < 2147483543 := by omega
  by_cases hg : (1000000000000000000 : Int) ≤ c
  · simp [bSource, hg, fInt]
    refine (key 1 (.inr rfl)).mono fun x S1 h => ?_
    obtain ⟨rfl, rfl⟩ := h
    simp
    exact ⟨by decide, _, _, gc_list0 (n := 0) rfl rfl, rfl, ⟨_, _, _⟩, rfl, hm.1, hm.2, Int.le_refl _, Int.le_refl _⟩
  · simp [bSource, hg, fInt]
    refine (key 0 (.inl rfl)).mono fun x S1 h => ?_
    obtain ⟨rfl, rfl⟩ := h
    simp
    exact ⟨by decide, _, _, gc_list0 (n := 0) rfl rfl, rfl, ⟨_, _, _⟩, rfl, hm.1, hm.2, Int.le_refl _, Int.le_refl _⟩
end
end T

set_option Elab.async false
set_option linter.all false
set_option maxRecDepth 100000
set_option maxHeartbeats 1000000
/-! comprehensions that draw; signs -/
namespace T
open PySem L2
section
variable {S G : Store} {s : Nat} {Q : List D → Store → Prop}
theorem set_self {σ : Sg} (h : S[s]? = some (sgC σ)) : S.set s (sgC σ) = S := by
  have hlt := get_lt h
  apply List.ext_getElem?
  intro i
  by_cases e : s = i
  · subst e; rw [get_set hlt, h]
  · rw [List.getElem?_set_ne e]
theorem rng_at {n i : Nat} {S : Store} (h : i ≤ n) : (rngIt 0 (n : Int)).at_ i S = some ((rI n).map D.int)[i]? := by
  unfold rngIt
  dsimp only
  by_cases hi : i < n
  · rw [if_pos (by omega)]; simp [rI, hi]
  · rw [if_neg (by omega)]
    have : n ≤ i := by omega
    simp [rI, List.getElem?_eq_none, this]
theorem rng_n {n : Nat} : (rngIt 0 (n : Int)).n = n := by simp [rngIt]
theorem rI_len {n : Nat} : ((rI n).map D.int).length = n := by simp [rI]
theorem rI_get {n i : Nat} {d : D} (h : ((rI n).map D.int)[i]? = some d) : d = .int (i : Int) ∧ i < n := by
  have hi := (List.getElem?_eq_some_iff.mp h).1
  rw [rI_len] at hi
  simp [rI, hi] at h
  exact ⟨h.symm, hi⟩
theorem takeA {v : Int} {σ : Sg} {b : Nat} (hlt : s < S.length) (hb : okG b σ) (hb' : b < 1000000000) (hv : 0 < v) (hv2 : v.natAbs.log2 < 9000) :
    goodR (gcR (S.set s (sgC σ) ++ G) (defF 4 bTake [.ref s, .int v] (S.set s (sgC σ) ++ G))) fun r T => ∃ i σ', r = .int i ∧ 0 ≤ i ∧ i < v ∧ T = S.set s (sgC σ') ++ G ∧ okG (b + 1) σ' := by
  refine (take_ok (σ := σ) (by simp [hlt]) hb hb' hv hv2).mono fun r T h => ?_
  obtain ⟨i, σ', rfl, h0, h1, rfl, ho⟩ := h
  exact ⟨i, σ', rfl, h0, h1, by simp [hlt], ho⟩
theorem pickA {σ : Sg} {b : Nat} {l : List D} (hlt : s < S.length) (hb : okG b σ) (hb' : b < 1000000000) (h0 : 0 < l.length) (h1 : l.length ≤ lineN) (hf : D.flatL l = true) :
    goodR (gcR (S.set s (sgC σ) ++ (G ++ [.lst l])) (defF 2 (bPick (defF 4 bTake)) [.ref s, .ref (S.length + G.length)] (S.set s (sgC σ) ++ (G ++ [.lst l])))) fun r T => r ∈ l ∧ ∃ σ', T = S.set s (sgC σ') ++ (G ++ [.lst l]) ∧ okG (b + 1) σ' := by
  refine (pick_ok (σ := σ) (b := b) (l := l) (by simp [hlt]) hb hb' ?_ ?_ h0 h1 hf).mono fun r T h => ?_
  · show cellL (S.set s (sgC σ) ++ (G ++ [.lst l]))[S.length + G.length]? = some l
    rw [← List.append_assoc, List.getElem?_append_right (by simp)]
    simp [cellL]
  · intro e
    injection e with e
    omega
  · obtain ⟨hr, σ', rfl, ho⟩ := h
    exact ⟨hr, σ', by simp [hlt], ho⟩
theorem pickA0 {σ : Sg} {b : Nat} {l : List D} (hlt : s < S.length) (hb : okG b σ) (hb' : b < 1000000000) (h0 : 0 < l.length) (h1 : l.length ≤ lineN) (hf : D.flatL l = true) :
    goodR (gcR (S.set s (sgC σ) ++ [.lst l]) (defF 2 (bPick (defF 4 bTake)) [.ref s, .ref S.length] (S.set s (sgC σ) ++ [.lst l]))) fun r T => r ∈ l ∧ ∃ σ', T = S.set s (sgC σ') ++ [.lst l] ∧ okG (b + 1) σ' :=
  pickA (G := []) hlt hb hb' h0 h1 hf
theorem w_lcdraw {t : Tg} {e : Ev} {ρ : Env} {n : Nat} {σ : Sg} {b : Nat} (Pd : D → Prop) (k : Nat) (hn : n ≤ lineN) (hb : okG b σ)
    (he : ∀ (i : Nat) σ' G', i < n → okG (b + k * i) σ' → ∃ ρ1, t (.int i) ρ (S.set s (sgC σ') ++ (G ++ G')) = some ρ1 ∧ goodR (e ρ1 (S.set s (sgC σ') ++ (G ++ G'))) fun y S2 => Pd y ∧ ∃ σ'' G'', S2 = S.set s (sgC σ'') ++ (G ++ G'') ∧ okG (b + k * i + k) σ'')
    (hQ : ∀ acc σ' G', acc.length = n → (∀ y ∈ acc, Pd y) → okG (b + k * n) σ' → Q acc (S.set s (sgC σ') ++ (G ++ G'))) : goodR (lcL (rngIt 0 (n : Int)).at_ t tYes e ρ (rngIt 0 (n : Int)).n 0 [] (S.set s (sgC σ) ++ G)) Q := by
  refine w_lcL ((rI n).map D.int) (fun i acc S' => ∃ σ' G', S' = S.set s (sgC σ') ++ (G ++ G') ∧ acc.length = i ∧ (∀ y ∈ acc, Pd y) ∧ okG (b + k * i) σ') (fun i acc S' h hi => rng_at (by rw [rI_len] at hi; exact hi)) (by rw [rI_len]; exact hn) (fun i acc S' h => ?_) (fun i d acc S' hd h => ?_) (fun acc S' h => ?_) _ 0 [] _ (by rw [rI_len, rng_n]; omega) (Nat.zero_le _) ⟨σ, [], by simp, rfl, fun y hy => absurd hy (by simp), by simpa using hb⟩
  · obtain ⟨_, _, _, h, _⟩ := h; omega
  · obtain ⟨σ', G', rfl, hl, hp, ho⟩ := h
    obtain ⟨rfl, hi⟩ := rI_get hd
    obtain ⟨ρ1, h1, h2⟩ := he i σ' G' hi ho
    refine ⟨ρ1, h1, ?_⟩
    simp only [w_tyes, if_true]
    refine h2.mono fun y S2 h3 => ?_
    obtain ⟨hy, σ'', G'', rfl, ho'⟩ := h3
    refine ⟨σ'', G'', rfl, by simp [hl], fun z hz => ?_, ho'.le (by rw [Nat.mul_succ]; omega)⟩
    rcases List.mem_append.mp hz with hz | hz
    · exact hp z hz
    · cases List.mem_singleton.mp hz; exact hy
  · obtain ⟨σ', G', rfl, hl, hp, ho⟩ := h
    rw [rI_len] at hl ho
    exact hQ acc σ' G' hl hp ho
theorem join_signs : ∀ x : List Nat, TL.joinL [] (x.map fun c => [c]) = x
  | [] => rfl
  | [a] => rfl
  | a :: b :: r => by
    have := join_signs (b :: r)
    show [a] ++ ([] ++ TL.joinL [] ((b :: r).map fun c => [c])) = _
    rw [this]; rfl
theorem signs_of : ∀ acc : List D, (∀ y ∈ acc, y ∈ [D.str [65], D.str [66]]) → ∃ x : List Nat, acc = x.map (fun c => D.str [c]) ∧ ∀ c ∈ x, c = 65 ∨ c = 66
  | [], _ => ⟨[], rfl, fun c hc => by cases hc⟩
  | a :: r, h => by
    obtain ⟨x, rfl, hx⟩ := signs_of r fun y hy => h y (List.mem_cons_of_mem _ hy)
    have ha := h a List.mem_cons_self
    rcases List.mem_cons.mp ha with rfl | ha
    · exact ⟨65 :: x, rfl, fun c hc => by
        rcases List.mem_cons.mp hc with rfl | hc
        · exact .inl rfl
        · exact hx c hc⟩
    · cases List.mem_singleton.mp ha
      exact ⟨66 :: x, rfl, fun c hc => by
        rcases List.mem_cons.mp hc with rfl | hc
        · exact .inr rfl
        · exact hx c hc⟩
theorem strs_signs (x : List Nat) : strsD (x.map fun c => D.str [c]) = some (x.map fun c => [c]) := by
  have := strsD_map (x.map fun c => [c])
  rwa [List.map_map] at this
theorem sum_ones (x : List Nat) : ((x.map fun c => [c]).map (·.length)).sum = x.length := by
  induction x with
  | nil => rfl
  | cons a r ih => simp only [List.map_cons, List.sum_cons, ih, List.length_cons, List.length_nil]; omega
/-- ''.join([pick(source, ['A', 'B']) for k in range(n)]) -/
theorem signs_ok {ρ : Env} {j k : Nat} {n : Nat} {σ : Sg} {b : Nat} {P : D → Store → Prop} (hlt : s < S.length) (hb : okG b σ) (hb' : b < 100000000) (hn : n ≤ 1000) (h0 : ρ[0]? = some (some (.ref s))) (hj : ρ[j]? = some (some (.int (n : Int)))) (hk : k < ρ.length) (hk0 : k ≠ 0)
    (hP : ∀ (x : List Nat) σ' G', x.length = n → (∀ c ∈ x, c = 65 ∨ c = 66) → okG (b + n) σ' → P (.str x) (S.set s (sgC σ') ++ (G ++ G'))) :
    goodR (eMt (methF ("join" : Str)) (eC (.str [])) (lCons (eLc [k] (tgN k) (iRng1 (lCons (eVar j) lNil)) tYes (eCall 2 (defF 2 (bPick (defF 4 bTake))) (lCons (eVar 0) (lCons (eLst (lCons (eC (.str [65])) (lCons (eC (.str [66])) lNil))) lNil)))) lNil) ρ (S.set s (sgC σ) ++ G)) P := by
  have h1 : okR (n : Int) = true := by unfold okR; simp; omega
  have h2 : n ≤ lineN := by unfold lineN; omega
  simp only [w_mt, w_c, kind_str, w_lcons, w_lnil, w_lc, w_irng1', w_var, methF_join]
  refine ⟨_, rfl, _, hj, _, rfl, h1, ?_⟩
  refine w_lcdraw (fun y => y ∈ [D.str [65], D.str [66]]) 1 h2 hb (fun i σ' G' hi ho => ?_) fun acc σ' G' hl hp ho => ?_
  · refine ⟨(wipeE ρ [k]).set k (some (.int i)), by simp [tgN, wipeE, hk], ?_⟩
    have e0 : ((wipeE ρ [k]).set k (some (.int (i : Int))))[0]? = some (some (.ref s)) := by
      simp only [wipeE, List.set_set]
      rw [List.getElem?_set_ne hk0, h0]
    simp only [w_call, w_lcons, w_lnil, w_lst, w_c, w_var]
    refine ⟨_, e0, by simp; decide, rfl, ?_⟩
    have := pickA (S := S) (s := s) (σ := σ') (G := G ++ G') (l := [D.str [65], D.str [66]]) hlt ho (by omega) (by simp) (by simp; decide) rfl
    simp only [List.append_assoc, List.length_append, List.length_set] at this ⊢
    refine this.mono fun r T h => ?_
    obtain ⟨hr, σ'', rfl, ho'⟩ := h
    exact ⟨hr, σ'', G' ++ [.lst [D.str [65], D.str [66]]], by simp, ho'⟩
  · obtain ⟨x, rfl, hx⟩ := signs_of acc hp
    rw [List.length_map] at hl
    have e : mJoin (.str []) [.ref (S.set s (sgC σ') ++ (G ++ G')).length] (S.set s (sgC σ') ++ (G ++ G') ++ [.lst (x.map fun c => D.str [c])]) = .ok (.str x) (S.set s (sgC σ') ++ (G ++ G') ++ [.lst (x.map fun c => D.str [c])]) := by
      unfold mJoin
      dsimp only [listD]
      rw [List.getElem?_append_right (Nat.le_refl _)]
      simp only [Nat.sub_self, List.getElem?_cons_zero, cellL, Option.bind_some]
      rw [strs_signs]
      dsimp only
      rw [sum_ones, if_pos (by simp; omega), join_signs]
    refine e ▸ ?_
    have := hP x σ' (G' ++ [.lst (x.map fun c => D.str [c])]) hl hx (by simpa using ho)
    show P _ _
    simpa [List.append_assoc] using this
end
end T

set_option Elab.async false
set_option linter.all false
set_option maxRecDepth 100000
namespace T
open PySem
theorem bits_log {z : Int} (h : Builtin.Int.intBits z ≤ 1048576) : z.natAbs.log2 < 100000000 := by
  unfold Builtin.Int.intBits at h
  split at h
  · rename_i e
    have : z = 0 := by simpa using e
    subst this
    decide
  · omega
end T

set_option Elab.async false
set_option linter.all false
set_option maxRecDepth 100000
namespace G30
open PySem T
def b__law_source : SEv := (sSeq (sRet (eLst (lCons (e2 bMulX (eVar 0) (eB fInt (lCons (e2 bGe (eVar 0) (e2 bPow (eC (.int 10)) (eC (.int 18)))) lNil))) (lCons (e2 bMod (eVar 0) (eC (.int 2147483543))) (lCons (eC (.int 0)) lNil))))) sNil)
def d__law_source : FSem := defF 1 b__law_source
def b__law_take : SEv := (sSeq (sIf (tB (e2 bGt (e2 bIx (eVar 0) (eC (.int 0))) (eC (.int 0)))) (sSeq (sAsg (tgN 2) (e2 bMod (e2 bIx (eVar 0) (eC (.int 0))) (eVar 1))) (sSeq (sSub pSet (e2 bDiv (e2 bIx (eVar 0) (eC (.int 0))) (eVar 1)) (eVar 0) (eC (.int 0))) (sSeq (sRet (eVar 2)) sNil))) sNil) (sSeq (sSub pSet (e2 bAdd (e2 bIx (eVar 0) (eC (.int 2))) (eC (.int 1))) (eVar 0) (eC (.int 2))) (sSeq (sAsg (tgN 3) (e2 bMod (e2 bMulX (e2 bAdd (e2 bAdd (e2 bIx (eVar 0) (eC (.int 1))) (e2 bMulX (eC (.int 32452843)) (e2 bIx (eVar 0) (eC (.int 2))))) (eC (.int 1))) (eC (.int 48271))) (eC (.int 2147483647)))) (sSeq (sAsg (tgN 3) (e2 bMod (e2 bMulX (eVar 3) (e2 bAdd (e2 bDiv (eVar 3) (eC (.int 1021))) (eC (.int 69621)))) (eC (.int 2147483629)))) (sSeq (sRet (e2 bMod (e2 bDiv (e2 bMod (e2 bMulX (eVar 3) (e2 bAdd (e2 bDiv (eVar 3) (eC (.int 2053))) (eC (.int 40692)))) (eC (.int 2147483399))) (eC (.int 3))) (eVar 1))) sNil)))))
def d__law_take : FSem := defF 4 b__law_take
def b__law_shuffled : SEv := (sSeq (sPar (lCons (eB fList (lCons (eVar 1) lNil)) (lCons (eLst lNil) lNil)) (tgCons (tgN 2) (tgCons (tgN 3) tgNil))) (sSeq (sWhile (tB (e2 bNe (eVar 2) (eLst lNil))) (sSeq (sDrop (eMt (methF ("append" : Str)) (eVar 3) (lCons (eMt (methF ("pop" : Str)) (eVar 2) (lCons (eCall 2 d__law_take (lCons (eVar 0) (lCons (eB fLen (lCons (eVar 2) lNil)) lNil))) lNil)) lNil))) sNil)) (sSeq (sRet (eVar 3)) sNil)))
def d__law_shuffled : FSem := defF 4 b__law_shuffled
def b__law_ranking : SEv := (sSeq (sRet (eB fTuple (lCons (eCall 2 d__law_shuffled (lCons (eVar 0) (lCons (eB fRng (lCons (eVar 1) lNil)) lNil))) lNil))) sNil)
def d__law_ranking : FSem := defF 2 b__law_ranking
def b__law_pick : SEv := (sSeq (sRet (e2 bIx (eVar 1) (eCall 2 d__law_take (lCons (eVar 0) (lCons (eB fLen (lCons (eVar 1) lNil)) lNil))))) sNil)
def d__law_pick : FSem := defF 2 b__law_pick
def b__law_wide_game : SEv := (sSeq (sAsg (tgN 1) (eB fTuple (lCons (eLc [3] (tgN 3) (iRng1 (lCons (eC (.int 60)) lNil)) tYes (e2 bAdd (e2 bPow (eC (.int 10)) (eC (.int 3))) (eCall 2 d__law_take (lCons (eVar 0) (lCons (e2 bPow (eC (.int 10)) (eC (.int 30))) lNil))))) lNil))) (sSeq (sAsg (tgN 2) (eLst lNil)) (sSeq (sFor (tgN 3) (iRng1 (lCons (eC (.int 200)) lNil)) (sSeq (sAsg (tgN 4) (e2 bAdd (eC (.int 1)) (eCall 2 d__law_take (lCons (eVar 0) (lCons (eCall 2 d__law_pick (lCons (eVar 0) (lCons (eLst (lCons (eC (.int 2)) (lCons (eC (.int 20)) lNil))) lNil))) lNil))))) (sSeq (sAsg (tgN 5) (eMt (methF ("join" : Str)) (eC (.str [])) (lCons (eLc [6] (tgN 6) (iRng1 (lCons (eVar 4) lNil)) tYes (eCall 2 d__law_pick (lCons (eVar 0) (lCons (eLst (lCons (eC (.str [65])) (lCons (eC (.str [66])) lNil))) lNil)))) lNil))) (sSeq (sDrop (eMt (methF ("append" : Str)) (eVar 2) (lCons (eTup (lCons (eVar 5) (lCons (e2 bAdd (eC (.int 1)) (eCall 2 d__law_take (lCons (eVar 0) (lCons (eC (.int 10)) lNil)))) lNil))) lNil))) sNil)))) (sSeq (sRet (eTup (lCons (eVar 1) (lCons (eCall 2 d__law_ranking (lCons (eVar 0) (lCons (eC (.int 60)) lNil))) (lCons (eVar 2) lNil))))) sNil))))
def d__law_wide_game : FSem := defF 7 b__law_wide_game
def b__law_big_share : SEv := (sSeq (sAsg (tgN 3) (eC (.int 0))) (sSeq (sFor (tgT (tgCons (tgN 4) (tgCons (tgN 5) tgNil))) (iSeq (eVar 0)) (sSeq (sAsg (tgN 6) (e2 bMulX (eB fLen (lCons (eVar 4) lNil)) (eVar 5))) (sSeq (sAsg (tgN 7) (eB fMin (lCons (eVar 2) (lCons (eVar 6) lNil)))) (sSeq (sAsg (tgN 3) (e2 bAdd (eVar 3) (e2 bMulX (e2 bDiv (eVar 7) (eB fLen (lCons (eVar 4) lNil))) (eMt (methF ("count" : Str)) (eVar 4) (lCons (eVar 1) lNil))))) (sSeq (sAsg (tgN 3) (e2 bAdd (eVar 3) (eMt (methF ("count" : Str)) (eCut (eVar 4) oNone (oSome (e2 bMod (eVar 7) (eB fLen (lCons (eVar 4) lNil))))) (lCons (eVar 1) lNil)))) (sSeq (sAsg (tgN 2) (e2 bSub (eVar 2) (eVar 7))) sNil)))))) (sSeq (sRet (eVar 3)) sNil)))
def d__law_big_share : FSem := defF 8 b__law_big_share
def b__law_sums : SEv := (sSeq (sPar (lCons (eLst lNil) (lCons (eC (.int 0)) lNil)) (tgCons (tgN 2) (tgCons (tgN 3) tgNil))) (sSeq (sFor (tgN 4) (iSeq (eVar 1)) (sSeq (sAsg (tgN 3) (e2 bAdd (eVar 3) (e2 bIx (eVar 0) (eVar 4)))) (sSeq (sDrop (eMt (methF ("append" : Str)) (eVar 2) (lCons (eVar 3) lNil))) sNil))) (sSeq (sRet (eVar 2)) sNil)))
def d__law_sums : FSem := defF 5 b__law_sums
def b__law_sure : SEv := (sSeq (sRet (eLc [4] (tgN 4) (iSeq (eCall 2 d__law_sums (lCons (eVar 0) (lCons (eVar 1) lNil)))) tYes (eCall 3 d__law_big_share (lCons (eVar 2) (lCons (eVar 3) (lCons (eVar 4) lNil)))))) sNil)
def d__law_sure : FSem := defF 5 b__law_sure
def b_is_integer : SEv := (sSeq (sRet (eAnd (eIsi (eVar 0) ["int"]) (eNot (tB (eIsi (eVar 0) ["bool"]))))) sNil)
def d_is_integer : FSem := defF 1 b_is_integer
def b_is_at_least : SEv := (sSeq (sRet (eAnd (eCall 1 d_is_integer (lCons (eVar 0) lNil)) (e2 bGe (eVar 0) (eVar 1)))) sNil)
def d_is_at_least : FSem := defF 2 b_is_at_least
def b_is_bundle : SEv := (sSeq (sRet (eAnd (eIsi (eVar 0) ["tuple"]) (eAnd (e2 bEq (eB fLen (lCons (eVar 0) lNil)) (eVar 1)) (eB fAll (lCons (eLc [2] (tgN 2) (iSeq (eVar 0)) tYes (eCall 2 d_is_at_least (lCons (eVar 2) (lCons (eC (.int 0)) lNil)))) lNil))))) sNil)
def d_is_bundle : FSem := defF 3 b_is_bundle
def b_require_counts : SEv := (sSeq (sIf (T.tOr (tNot (tV (eIsi (eVar 0) ["tuple"]))) (T.tOr (tB (e2 bGt (eB fLen (lCons (eVar 0) lNil)) (eC (.int 60)))) (tNot (tV (eCall 2 d_is_bundle (lCons (eVar 0) (lCons (eB fLen (lCons (eVar 0) lNil)) lNil))))))) (sSeq sErr sNil) sNil) sNil)
def d_require_counts : FSem := defF 1 b_require_counts
def b_is_between : SEv := (sSeq (sRet (eAnd (eCall 1 d_is_integer (lCons (eVar 0) lNil)) (eChain bLe bLe (eVar 1) (eVar 0) (eVar 2)))) sNil)
def d_is_between : FSem := defF 3 b_is_between
def b_is_list : SEv := (sSeq (sIf (T.tOr (tNot (tV (eIsi (eVar 0) ["tuple"]))) (tB (e2 bNe (eB fLen (lCons (eVar 0) lNil)) (eVar 1)))) (sSeq (sRet (eC (.bl false))) sNil) sNil) (sSeq (sRet (eAnd (eB fAll (lCons (eLc [2] (tgN 2) (iSeq (eVar 0)) tYes (eCall 3 d_is_between (lCons (eVar 2) (lCons (eC (.int 0)) (lCons (e2 bSub (eVar 1) (eC (.int 1))) lNil))))) lNil)) (e2 bEq (eB fSorted (lCons (eVar 0) lNil)) (eB fRng (lCons (eVar 1) lNil))))) sNil))
def d_is_list : FSem := defF 3 b_is_list
def b_require_list : SEv := (sSeq (sIf (tNot (tV (eCall 2 d_is_list (lCons (eVar 0) (lCons (eVar 1) lNil))))) (sSeq sErr sNil) sNil) sNil)
def d_require_list : FSem := defF 2 b_require_list
def b_is_turns : SEv := (sSeq (sRet (eAnd (eIsi (eVar 0) ["str"]) (eAnd (eChain bLe bLe (eC (.int 1)) (eB fLen (lCons (eVar 0) lNil)) (eC (.int 20))) (eB fAll (lCons (eLc [1] (tgN 1) (iSeq (eVar 0)) tYes (e2 bIn (eVar 1) (eC (.tup [(.str [65]), (.str [66])])))) lNil))))) sNil)
def d_is_turns : FSem := defF 2 b_is_turns
def b_is_block : SEv := (sSeq (sRet (eAnd (eIsi (eVar 0) ["tuple"]) (eAnd (e2 bEq (eB fLen (lCons (eVar 0) lNil)) (eC (.int 2))) (eAnd (eCall 1 d_is_turns (lCons (e2 bIx (eVar 0) (eC (.int 0))) lNil)) (eCall 2 d_is_at_least (lCons (e2 bIx (eVar 0) (eC (.int 1))) (lCons (eC (.int 1)) lNil))))))) sNil)
def d_is_block : FSem := defF 1 b_is_block
def b_require_sequence : SEv := (sSeq (sIf (T.tOr (tNot (tV (eIsi (eVar 0) ["list", "tuple"]))) (tB (e2 bGt (eB fLen (lCons (eVar 0) lNil)) (eC (.int 200))))) (sSeq sErr sNil) sNil) (sSeq (sFor (tgT (tgCons (tgN 1) (tgCons (tgN 2) tgNil))) (iEnum1 (lCons (eVar 0) lNil)) (sSeq (sIf (tNot (tV (eCall 1 d_is_block (lCons (eVar 2) lNil)))) (sSeq sErr sNil) sNil) sNil)) sNil))
def d_require_sequence : FSem := defF 3 b_require_sequence
def b_require_player : SEv := (sSeq (sIf (T.tOr (tNot (tV (eIsi (eVar 0) ["str"]))) (tB (e2 bNotIn (eVar 0) (eC (.tup [(.str [65]), (.str [66])]))))) (sSeq sErr sNil) sNil) sNil)
def d_require_player : FSem := defF 1 b_require_player
def b_require_side : SEv := (sSeq (sDrop (eCall 1 d_require_counts (lCons (eVar 0) lNil))) (sSeq (sDrop (eCall 2 d_require_list (lCons (eVar 1) (lCons (eB fLen (lCons (eVar 0) lNil)) lNil)))) (sSeq (sDrop (eCall 1 d_require_sequence (lCons (eVar 2) lNil))) (sSeq (sDrop (eCall 1 d_require_player (lCons (eVar 3) lNil))) sNil))))
def d_require_side : FSem := defF 4 b_require_side
def b_picks_of : SEv := (sSeq (sRet (eB fSum (lCons (eLc [1, 2] (tgT (tgCons (tgN 1) (tgCons (tgN 2) tgNil))) (iSeq (eVar 0)) tYes (e2 bMulX (eB fLen (lCons (eVar 1) lNil)) (eVar 2))) lNil))) sNil)
def d_picks_of : FSem := defF 3 b_picks_of
def b_require_fits : SEv := (sSeq (sIf (tB (e2 bGt (eCall 1 d_picks_of (lCons (eVar 1) lNil)) (eB fSum (lCons (eVar 0) lNil)))) (sSeq sErr sNil) sNil) sNil)
def d_require_fits : FSem := defF 2 b_require_fits
def b_count_turns : SEv := (sSeq (sAsg (tgN 3) (eC (.int 0))) (sSeq (sFor (tgT (tgCons (tgN 4) (tgCons (tgN 5) tgNil))) (iSeq (eVar 0)) (sSeq (sAsg (tgN 6) (eB fMin (lCons (eVar 5) (lCons (e2 bDiv (eVar 2) (eB fLen (lCons (eVar 4) lNil))) lNil)))) (sSeq (sAug 3 bIAdd (e2 bMulX (eVar 6) (eMt (methF ("count" : Str)) (eVar 4) (lCons (eVar 1) lNil)))) (sSeq (sAug 2 bSub (e2 bMulX (eVar 6) (eB fLen (lCons (eVar 4) lNil)))) (sSeq (sIf (tB (e2 bLt (eVar 6) (eVar 5))) (sSeq (sRet (e2 bAdd (eVar 3) (eMt (methF ("count" : Str)) (eCut (eVar 4) oNone (oSome (eVar 2))) (lCons (eVar 1) lNil)))) sNil) sNil) sNil))))) (sSeq (sRet (eVar 3)) sNil)))
def d_count_turns : FSem := defF 7 b_count_turns
def b_prefix_sums : SEv := (sSeq (sPar (lCons (eLst lNil) (lCons (eC (.int 0)) lNil)) (tgCons (tgN 2) (tgCons (tgN 3) tgNil))) (sSeq (sFor (tgN 4) (iSeq (eVar 1)) (sSeq (sAug 3 bIAdd (e2 bIx (eVar 0) (eVar 4))) (sSeq (sDrop (eMt (methF ("append" : Str)) (eVar 2) (lCons (eVar 3) lNil))) sNil))) (sSeq (sRet (eVar 2)) sNil)))
def d_prefix_sums : FSem := defF 5 b_prefix_sums
def b_sure_of : SEv := (sSeq (sRet (eLc [4] (tgN 4) (iSeq (eCall 2 d_prefix_sums (lCons (eVar 0) (lCons (eVar 1) lNil)))) tYes (eCall 3 d_count_turns (lCons (eVar 2) (lCons (eVar 3) (lCons (eVar 4) lNil)))))) sNil)
def d_sure_of : FSem := defF 5 b_sure_of
def b_sure_counts : SEv := (sSeq (sDrop (eCall 4 d_require_side (lCons (eVar 0) (lCons (eVar 1) (lCons (eVar 2) (lCons (eVar 3) lNil)))))) (sSeq (sDrop (eCall 2 d_require_fits (lCons (eVar 0) (lCons (eVar 2) lNil)))) (sSeq (sRet (eCall 4 d_sure_of (lCons (eVar 0) (lCons (eVar 1) (lCons (eVar 2) (lCons (eVar 3) lNil)))))) sNil)))
def d_sure_counts : FSem := defF 4 b_sure_counts
def b_sure_bundle : SEv := (sSeq (sAsg (tgN 4) (eCall 4 d_sure_counts (lCons (eVar 0) (lCons (eVar 1) (lCons (eVar 2) (lCons (eVar 3) lNil)))))) (sSeq (sPar (lCons (e2 bMulX (eLst (lCons (eC (.int 0)) lNil)) (eB fLen (lCons (eVar 0) lNil))) (lCons (eC (.int 0)) lNil)) (tgCons (tgN 5) (tgCons (tgN 6) tgNil))) (sSeq (sFor (tgT (tgCons (tgN 7) (tgCons (tgN 8) tgNil))) (iZip true (lCons (eVar 1) (lCons (eVar 4) lNil))) (sSeq (sSub pSet (e2 bSub (eVar 8) (eVar 6)) (eVar 5) (eVar 7)) (sSeq (sAsg (tgN 6) (eVar 8)) sNil))) (sSeq (sRet (eB fTuple (lCons (eVar 5) lNil))) sNil))))
def d_sure_bundle : FSem := defF 9 b_sure_bundle
def b_require_wanted : SEv := (sSeq (sIf (T.tOr (tNot (tV (eIsi (eVar 0) ["list", "tuple"]))) (tB (e2 bNe (eB fLen (lCons (eVar 0) lNil)) (eVar 1)))) (sSeq sErr sNil) sNil) (sSeq (sFor (tgT (tgCons (tgN 2) (tgCons (tgN 3) tgNil))) (iEnum1 (lCons (eVar 0) lNil)) (sSeq (sIf (tNot (tV (eCall 1 d_is_integer (lCons (eVar 3) lNil)))) (sSeq sErr sNil) sNil) sNil)) sNil))
def d_require_wanted : FSem := defF 4 b_require_wanted
def b_is_sure : SEv := (sSeq (sDrop (eCall 4 d_require_side (lCons (eVar 0) (lCons (eVar 1) (lCons (eVar 2) (lCons (eVar 3) lNil)))))) (sSeq (sDrop (eCall 2 d_require_wanted (lCons (eVar 4) (lCons (eB fLen (lCons (eVar 0) lNil)) lNil)))) (sSeq (sDrop (eCall 2 d_require_fits (lCons (eVar 0) (lCons (eVar 2) lNil)))) (sSeq (sAsg (tgN 5) (eCall 4 d_sure_of (lCons (eVar 0) (lCons (eVar 1) (lCons (eVar 2) (lCons (eVar 3) lNil)))))) (sSeq (sRet (eB fAll (lCons (eLc [6, 7] (tgT (tgCons (tgN 6) (tgCons (tgN 7) tgNil))) (iZip true (lCons (eVar 4) (lCons (eVar 5) lNil))) tYes (e2 bLe (eVar 6) (eVar 7))) lNil))) sNil)))))
def d_is_sure : FSem := defF 8 b_is_sure
def b__law_wanted_right : SEv := (sSeq (sAsg (tgN 5) (eCall 4 d__law_sure (lCons (eVar 1) (lCons (eVar 2) (lCons (eVar 3) (lCons (eVar 4) lNil)))))) (sSeq (sAsg (tgN 6) (eLc [10] (tgN 10) (iSeq (eVar 5)) tYes (e2 bSub (eVar 10) (eCall 2 d__law_pick (lCons (eVar 0) (lCons (eLst (lCons (eC (.int 0)) (lCons (eC (.int 0)) (lCons (eC (.int 1)) (lCons (e2 bPow (eC (.int 10)) (eC (.int 30))) lNil))))) lNil)))))) (sSeq (sFor (tgN 7) (iSeq (eLst (lCons (eVar 5) (lCons (eVar 6) (lCons (eB fTuple (lCons (eVar 5) lNil)) (lCons (eB fTuple (lCons (eVar 6) lNil)) lNil)))))) (sSeq (sIf (tB (e2 bIsNot (eCall 5 d_is_sure (lCons (eVar 1) (lCons (eVar 2) (lCons (eVar 3) (lCons (eVar 4) (lCons (eVar 7) lNil)))))) (eC (.bl true)))) (sSeq (sRet (eC (.bl false))) sNil) sNil) sNil)) (sSeq (sFor (tgN 8) (iRng1 (lCons (eB fLen (lCons (eVar 5) lNil)) lNil)) (sSeq (sAsg (tgN 9) (e2 bAdd (e2 bAdd (eCut (eVar 6) oNone (oSome (eVar 8))) (eLst (lCons (e2 bAdd (e2 bIx (eVar 5) (eVar 8)) (eCall 2 d__law_pick (lCons (eVar 0) (lCons (eLst (lCons (eC (.int 1)) (lCons (eC (.int 1)) (lCons (eC (.int 9)) lNil)))) lNil)))) lNil))) (eCut (eVar 6) (oSome (e2 bAdd (eVar 8) (eC (.int 1)))) oNone))) (sSeq (sIf (tB (e2 bIsNot (eCall 5 d_is_sure (lCons (eVar 1) (lCons (eVar 2) (lCons (eVar 3) (lCons (eVar 4) (lCons (eVar 9) lNil)))))) (eC (.bl false)))) (sSeq (sRet (eC (.bl false))) sNil) sNil) sNil))) (sSeq (sRet (eC (.bl true))) sNil)))))
def d__law_wanted_right : FSem := defF 11 b__law_wanted_right
def b__law_right : SEv := (sSeq (sAsg (tgN 5) (eCall 4 d__law_sure (lCons (eVar 1) (lCons (eVar 2) (lCons (eVar 3) (lCons (eVar 4) lNil)))))) (sSeq (sAsg (tgN 6) (eCall 4 d_sure_counts (lCons (eVar 1) (lCons (eVar 2) (lCons (eVar 3) (lCons (eVar 4) lNil)))))) (sSeq (sIf (T.tOr (tB (e2 bNe (eVar 6) (eVar 5))) (tNot (tV (eIsi (eVar 6) ["list"])))) (sSeq (sRet (eC (.bl false))) sNil) sNil) (sSeq (sDrop (eMt (methF ("append" : Str)) (eVar 6) (lCons (eC D.non) lNil))) (sSeq (sIf (tB (e2 bNe (eCall 4 d_sure_counts (lCons (eVar 1) (lCons (eVar 2) (lCons (eB fTuple (lCons (eVar 3) lNil)) (lCons (eVar 4) lNil))))) (eVar 5))) (sSeq (sRet (eC (.bl false))) sNil) sNil) (sSeq (sAsg (tgN 7) (eCall 4 d_sure_bundle (lCons (eVar 1) (lCons (eVar 2) (lCons (eVar 3) (lCons (eVar 4) lNil)))))) (sSeq (sIf (T.tOr (tNot (tV (eIsi (eVar 7) ["tuple"]))) (tB (e2 bNe (eCall 2 d__law_sums (lCons (eVar 7) (lCons (eVar 2) lNil))) (eVar 5)))) (sSeq (sRet (eC (.bl false))) sNil) sNil) (sSeq (sRet (eCall 5 d__law_wanted_right (lCons (eVar 0) (lCons (eVar 1) (lCons (eVar 2) (lCons (eVar 3) (lCons (eVar 4) lNil))))))) sNil))))))))
def d__law_right : FSem := defF 8 b__law_right
def b__law_supply : SEv := (sSeq (sAsg (tgN 3) (eCall 2 d__law_take (lCons (eVar 0) (lCons (e2 bAdd (eVar 1) (eC (.int 1))) lNil)))) (sSeq (sRet (eB fTuple (lCons (eLc [4] (tgN 4) (iRng1 (lCons (eVar 3) lNil)) tYes (eCall 2 d__law_pick (lCons (eVar 0) (lCons (eLst (lCons (eC (.int 0)) (lCons (eC (.int 1)) (lCons (eC (.int 1)) (lCons (eCall 2 d__law_take (lCons (eVar 0) (lCons (eVar 2) lNil))) lNil))))) lNil)))) lNil))) sNil))
def d__law_supply : FSem := defF 5 b__law_supply
def b__law_blocks : SEv := (sSeq (sAsg (tgN 3) (eLst lNil)) (sSeq (sFor (tgN 4) (iRng1 (lCons (eCall 2 d__law_take (lCons (eVar 0) (lCons (eC (.int 6)) lNil))) lNil)) (sSeq (sAsg (tgN 5) (e2 bAdd (eC (.int 1)) (eCall 2 d__law_take (lCons (eVar 0) (lCons (eCall 2 d__law_pick (lCons (eVar 0) (lCons (eLst (lCons (eC (.int 3)) (lCons (eC (.int 20)) lNil))) lNil))) lNil))))) (sSeq (sAsg (tgN 6) (eMt (methF ("join" : Str)) (eC (.str [])) (lCons (eLc [8] (tgN 8) (iRng1 (lCons (eVar 5) lNil)) tYes (eCall 2 d__law_pick (lCons (eVar 0) (lCons (eLst (lCons (eC (.str [65])) (lCons (eC (.str [66])) lNil))) lNil)))) lNil))) (sSeq (sAsg (tgN 7) (eB fMin (lCons (e2 bAdd (eC (.int 1)) (eCall 2 d__law_take (lCons (eVar 0) (lCons (eVar 2) lNil)))) (lCons (e2 bDiv (eVar 1) (eVar 5)) lNil)))) (sSeq (sIf (tB (e2 bGt (eVar 7) (eC (.int 0)))) (sSeq (sDrop (eMt (methF ("append" : Str)) (eVar 3) (lCons (eTup (lCons (eVar 6) (lCons (eVar 7) lNil))) lNil))) (sSeq (sAsg (tgN 1) (e2 bSub (eVar 1) (e2 bMulX (eVar 5) (eVar 7)))) sNil)) sNil) sNil))))) (sSeq (sRet (eVar 3)) sNil)))
def d__law_blocks : FSem := defF 9 b__law_blocks
def b__law_any_game : SEv := (sSeq (sAsg (tgN 1) (eCall 2 d__law_pick (lCons (eVar 0) (lCons (eLst (lCons (eC (.int 4)) (lCons (eC (.int 9)) (lCons (eC (.int 40)) (lCons (e2 bPow (eC (.int 10)) (eC (.int 30))) lNil))))) lNil)))) (sSeq (sAsg (tgN 2) (eCall 3 d__law_supply (lCons (eVar 0) (lCons (eC (.int 9)) (lCons (eVar 1) lNil))))) (sSeq (sAsg (tgN 3) (eCall 3 d__law_blocks (lCons (eVar 0) (lCons (eB fSum (lCons (eVar 2) lNil)) (lCons (eCall 2 d__law_pick (lCons (eVar 0) (lCons (eLst (lCons (eC (.int 2)) (lCons (eC (.int 9)) (lCons (e2 bPow (eC (.int 10)) (eC (.int 28))) lNil)))) lNil))) lNil))))) (sSeq (sRet (eTup (lCons (eVar 2) (lCons (eCall 2 d__law_ranking (lCons (eVar 0) (lCons (eB fLen (lCons (eVar 2) lNil)) lNil))) (lCons (eVar 3) lNil))))) sNil))))
def d__law_any_game : FSem := defF 4 b__law_any_game
def b__law_cell_at : SEv := (sSeq (sIf (tB (e2 bLt (eVar 1) (eB fLen (lCons (eVar 0) lNil)))) (sSeq (sRet (e2 bIx (eVar 0) (eVar 1))) sNil) sNil) (sSeq (sRet (eC (.int 0))) sNil))
def d__law_cell_at : FSem := defF 2 b__law_cell_at
def b_law : SEv := (sSeq (sFor (tgN 1) (iSeq (e2 bAdd (eLst (lCons (eCall 2 d__law_cell_at (lCons (eVar 0) (lCons (eC (.int 0)) lNil))) lNil)) (eCut (eVar 0) (oSome (eC (.int 1))) (oSome (eC (.int 6)))))) (sSeq (sAsg (tgN 2) (eCall 1 d__law_source (lCons (eVar 1) lNil))) (sSeq (sAsg (tgT (tgCons (tgN 3) (tgCons (tgN 4) (tgCons (tgN 5) tgNil)))) (eCall 1 d__law_any_game (lCons (eVar 2) lNil))) (sSeq (sFor (tgN 6) (iSeq (eLst (lCons (eC (.str [65])) (lCons (eC (.str [66])) lNil)))) (sSeq (sIf (tNot (tV (eCall 5 d__law_right (lCons (eVar 2) (lCons (eVar 3) (lCons (eVar 4) (lCons (eVar 5) (lCons (eVar 6) lNil)))))))) (sSeq (sRet (eC (.bl false))) sNil) sNil) sNil)) sNil)))) (sSeq (sAsg (tgN 2) (eCall 1 d__law_source (lCons (eCall 2 d__law_cell_at (lCons (eVar 0) (lCons (eC (.int 0)) lNil))) lNil))) (sSeq (sAsg (tgT (tgCons (tgN 3) (tgCons (tgN 4) (tgCons (tgN 5) tgNil)))) (eCall 1 d__law_wide_game (lCons (eVar 2) lNil))) (sSeq (sRet (eCall 5 d__law_right (lCons (eVar 2) (lCons (eVar 3) (lCons (eVar 4) (lCons (eVar 5) (lCons (eCall 2 d__law_pick (lCons (eVar 2) (lCons (eLst (lCons (eC (.str [65])) (lCons (eC (.str [66])) lNil))) lNil))) lNil))))))) sNil))))
def d_law : FSem := defF 7 b_law
end G30

set_option Elab.async false
set_option linter.all false
set_option maxRecDepth 100000
set_option maxHeartbeats 1000000
namespace G30
open PySem T
section
variable {S : Store}
theorem is_int (i : Int) : gcR S (d_is_integer [.int i] S) = .ok (.bl true) S := by
  apply gcR_eq
  simp [d_is_integer, b_is_integer, tyD, isTy]
theorem at_least (i k : Int) : gcR S (d_is_at_least [.int i, .int k] S) = .ok (.bl (decide (k ≤ i))) S := by
  apply gcR_eq
  simp [d_is_at_least, b_is_at_least, is_int, bGe, cInt]
theorem between (i a b : Int) : gcR S (d_is_between [.int i, .int a, .int b] S) = .ok (.bl (decide (a ≤ i ∧ i ≤ b))) S := by
  apply gcR_eq
  by_cases h : a ≤ i <;> simp [d_is_between, b_is_between, is_int, bLe, cInt, h]
theorem all_true {l : List D} {n : Nat} (h : cellL S[n]? = some (l.map fun _ => D.bl true)) : fAll [.ref n] S = .ok (.bl true) S := by
  unfold fAll
  dsimp only
  rw [h]
  have : blsD (l.map fun _ => D.bl true) = some (l.map fun _ => true) := by
    have := blsD_map (l.map fun _ => true)
    rwa [List.map_map] at this
  show (match (some (l.map fun _ => D.bl true)).bind blsD with | some bs => R.ok (D.bl (bs.all id)) S | none => .err) = _
  rw [show (some (l.map fun _ => D.bl true)).bind blsD = blsD (l.map fun _ => D.bl true) from rfl, this]
  simp
theorem bundle {cs : List Int} (h : ∀ c ∈ cs, 0 ≤ c) (hl : cs.length ≤ lineN) : gcR S (d_is_bundle [.tup (cs.map D.int), .int (cs.length : Int)] S) = .ok (.bl true) S := by
  apply gcR_eq
  simp [d_is_bundle, b_is_bundle, tyD, isTy, fLen, bEq_int, seqIt]
  refine w_lcmap (l := cs.map D.int) (f := fun _ => D.bl true) (by simp) (fun j _ => by simp) (by simpa using hl) (fun d hd => ?_) ?_
  · obtain ⟨c, hc, rfl⟩ := List.mem_map.mp hd
    simp [tgN, wipeE, at_least, h c hc]
  · rw [all_true (l := cs.map D.int) (by simp [cellL])]
    simp
theorem req_counts {cs : List Int} (h : ∀ c ∈ cs, 0 ≤ c) (hl : cs.length ≤ 60) : gcR S (d_require_counts [.tup (cs.map D.int)] S) = .ok .non S := by
  apply gcR_eq
  have h2 : ¬ (60 : Int) < cs.length := by omega
  have h3 : cs.length ≤ lineN := by unfold lineN; omega
  simp [d_require_counts, b_require_counts, tyD, isTy, fLen, bGt, cInt, truth, h2, bundle h h3]
end
end G30

set_option Elab.async false
set_option linter.all false
set_option maxRecDepth 100000
set_option maxHeartbeats 1000000
namespace G30
open PySem T
def rI (n : Nat) : List Int := (List.range n).map fun i : Nat => (i : Int)
theorem rngD_rI (n : Nat) : rngD 0 (n : Int) = (rI n).map D.int := by
  unfold rngD rI
  simp
/-- a ranking of n kinds -/
structure Rk (n : Nat) (rk : List Int) : Prop where
  len : rk.length = n
  sort : PySem.W.sortI rk = rI n
  mem : ∀ k ∈ rk, 0 ≤ k ∧ k < n
/-- blocks -/
abbrev Blk := List Nat × Int
def blkD (b : Blk) : D := .tup [.str b.1, .int b.2]
structure OkB (b : Blk) : Prop where
  one : 1 ≤ b.1.length
  few : b.1.length ≤ 20
  ab : ∀ c ∈ b.1, c = 65 ∨ c = 66
  pos : 1 ≤ b.2
section
variable {S : Store}
theorem list_ok {n : Nat} {rk : List Int} (h : Rk n rk) (hn : n ≤ 60) : gcR S (d_is_list [.tup (rk.map D.int), .int (n : Int)] S) = .ok (.bl true) S := by
  apply gcR_eq
  have h1 : okR (n : Int) = true := by unfold okR; simp; omega
  have h2 : n ≤ lineN := by unfold lineN; omega
  simp [d_is_list, b_is_list, tyD, isTy, fLen, bNe_int, bSub, h.len, seqIt]
  refine w_lcmap (l := rk.map D.int) (f := fun _ => D.bl true) (by simp [h.len]) (fun j _ => by simp) (by simpa [h.len] using h2) (fun d hd => ?_) ?_
  · obtain ⟨c, hc, rfl⟩ := List.mem_map.mp hd
    have := h.mem c hc
    have h3 : c ≤ (n : Int) - 1 := by omega
    simp [tgN, wipeE, between, this.1, h3, bSub]
  · rw [all_true (l := rk.map D.int) (by simp [cellL])]
    simp [fSorted, listD, intsD_map, fRng, h1, h2, h.sort, rngD_rI]
    rw [bEq_lists (a := rI n) (b := rI n) (by simp [cellL]) (by simp [cellL])]
    simp
theorem req_list {n : Nat} {rk : List Int} (h : Rk n rk) (hn : n ≤ 60) : gcR S (d_require_list [.tup (rk.map D.int), .int (n : Int)] S) = .ok .non S := by
  apply gcR_eq
  simp [d_require_list, b_require_list, list_ok h hn, truth]
theorem turns_ok {x : List Nat} (h1 : 1 ≤ x.length) (h2 : x.length ≤ 20) (h3 : ∀ c ∈ x, c = 65 ∨ c = 66) : gcR S (d_is_turns [.str x] S) = .ok (.bl true) S := by
  apply gcR_eq
  have e1 : x.length ≤ lineN := by unfold lineN; omega
  have e2 : (1 : Int) ≤ x.length := by omega
  have e3 : (x.length : Int) ≤ 20 := by omega
  simp [d_is_turns, b_is_turns, tyD, isTy, fLen, bLe, cInt, e1, e2, e3, seqIt]
  refine w_lcmap (l := x.map fun c => D.str [c]) (f := fun _ => D.bl true) (by simp) (fun j _ => by simp) (by simpa using e1) (fun d hd => ?_) ?_
  · obtain ⟨c, hc, rfl⟩ := List.mem_map.mp hd
    rcases h3 c hc with rfl | rfl <;> simp [tgN, wipeE, bIn, inB, flatD1, eqF]
  · rw [all_true (l := x.map fun c => D.str [c]) (by simp [cellL])]
    simp
theorem block_ok {b : Blk} (h : OkB b) : gcR S (d_is_block [blkD b] S) = .ok (.bl true) S := by
  apply gcR_eq
  simp [d_is_block, b_is_block, blkD, tyD, isTy, fLen, bEq_int, bIx, L2.atI, L2.ixN, turns_ok h.one h.few h.ab, at_least, h.pos]
end
end G30

set_option Elab.async false
set_option linter.all false
set_option maxRecDepth 100000
set_option maxHeartbeats 1000000
namespace G30
open PySem T
section
variable {S : Store}
theorem req_seq {d : D} {bs : List Blk} (h : listD d S = some (bs.map blkD)) (hl : bs.length ≤ 200) (hb : ∀ b ∈ bs, OkB b) : gcR S (d_require_sequence [d] S) = .ok .non S := by
  apply gcR_eq
  obtain ⟨t, ht, htt⟩ := listD_ty h
  have hn : ¬ (200 : Int) < (bs.length : Int) := by omega
  obtain ⟨J, hJ, hJn, hat⟩ := en_J (c := 0) h
  simp [d_require_sequence, b_require_sequence, ht, listD_len h, bGt, cInt, hn, hJ]
  refine ⟨by rcases htt with rfl | rfl <;> decide, ?_⟩
  rw [hJn]
  refine goodS.mono (w_forL (enL 0 (bs.map blkD)) (fun i ρ S' => S' = S ∧ ∃ a b, ρ = [some d, a, b]) (fun i ρ S' hi hl => ?_) (fun i x ρ S' hx hi => ?_) _ 0 _ S (by simp [enL_len]) (Nat.zero_le _) ⟨rfl, _, _, rfl⟩) (fun ρ S' hi => ?_) (fun _ _ z => z)
  · obtain ⟨rfl, _⟩ := hi
    exact hat _ h i (by simpa [enL_len] using hl)
  · obtain ⟨rfl, a, b, rfl⟩ := hi
    rw [enL_get] at hx
    obtain ⟨y, hy, rfl⟩ := Option.map_eq_some_iff.mp hx
    obtain ⟨bb, hbb, rfl⟩ := List.mem_map.mp (List.mem_of_getElem? hy)
    refine ⟨[some d, some (.int (0 + (i : Int))), some (blkD bb)], by simp [tgT, tgCons, tgN, tgNil], ?_⟩
    simp [block_ok (hb bb hbb)]
  · obtain ⟨rfl, _⟩ := hi
    simp
theorem req_player {p : Nat} (h : p = 65 ∨ p = 66) : gcR S (d_require_player [.str [p]] S) = .ok .non S := by
  apply gcR_eq
  rcases h with rfl | rfl <;> simp [d_require_player, b_require_player, tyD, isTy, bNotIn, inB, flatD1, eqF]
/-- a valid side -/
structure Side (cs rk : List Int) (d : D) (bs : List Blk) (p : Nat) (S : Store) : Prop where
  cpos : ∀ c ∈ cs, 0 ≤ c
  cfew : cs.length ≤ 60
  rk : Rk cs.length rk
  seq : listD d S = some (bs.map blkD)
  bfew : bs.length ≤ 200
  bok : ∀ b ∈ bs, OkB b
  pl : p = 65 ∨ p = 66
theorem req_side {cs rk : List Int} {d : D} {bs : List Blk} {p : Nat} (h : Side cs rk d bs p S) : gcR S (d_require_side [.tup (cs.map D.int), .tup (rk.map D.int), d, .str [p]] S) = .ok .non S := by
  apply gcR_eq
  simp [d_require_side, b_require_side, req_counts h.cpos h.cfew, fLen, req_list h.rk h.cfew, req_seq h.seq h.bfew h.bok, req_player h.pl]
def picksOf (bs : List Blk) : Int := (bs.map fun b => (b.1.length : Int) * b.2).sum
theorem mul_ok {a b : Int} (h1 : a.natAbs < 2 ^ 1000) (h2 : b.natAbs < 2 ^ 100000) : mulOk a b = true := by
  unfold mulOk
  have e1 : a.natAbs.log2 < 1000 := by
    by_cases h : a.natAbs = 0
    · rw [h]; decide
    · exact (Nat.log2_lt h).mpr h1
  have e2 : b.natAbs.log2 < 100000 := by
    by_cases h : b.natAbs = 0
    · rw [h]; decide
    · exact (Nat.log2_lt h).mpr h2
  exact decide_eq_true (by omega)
/-- the times are not huge -/
def Small (bs : List Blk) : Prop := ∀ b ∈ bs, b.2 < 2 ^ 1000
theorem small_ok {b : Blk} (h : OkB b) (hs : b.2 < 2 ^ 1000) : mulOk (b.1.length : Int) b.2 = true := by
  have h1 := h.few
  have h2 := h.pos
  refine mul_ok ?_ ?_
  · exact Nat.lt_of_le_of_lt (show _ ≤ 20 by omega) (by decide)
  · have : b.2.natAbs < 2 ^ 1000 := by
      have : (b.2.natAbs : Int) < 2 ^ 1000 := by omega
      exact_mod_cast this
    exact Nat.lt_of_lt_of_le this (Nat.pow_le_pow_right (by decide) (by decide))
theorem picks_of {d : D} {bs : List Blk} (h : listD d S = some (bs.map blkD)) (hl : bs.length ≤ 200) (hb : ∀ b ∈ bs, OkB b) (hs : Small bs) : gcR S (d_picks_of [d] S) = .ok (.int (picksOf bs)) S := by
  apply gcR_eq
  obtain ⟨J, hJ, hJn, hat⟩ := listD_seq h
  have hll : bs.length ≤ lineN := by unfold lineN; omega
  simp [d_picks_of, b_picks_of, hJ]
  refine w_lcmap (l := bs.map blkD) (f := fun x => match x with | .tup [.str s, .int t] => .int ((s.length : Int) * t) | _ => .non) hJn (fun j _ => hat S h j) (by simpa using hll) (fun x hx => ?_) ?_
  · obtain ⟨b, hbm, rfl⟩ := List.mem_map.mp hx
    have h1 : b.1.length ≤ lineN := by have := (hb b hbm).few; unfold lineN; omega
    refine ⟨[some d, some (.str b.1), some (.int b.2)], by simp [tgT, tgCons, tgN, tgNil, wipeE, blkD], ?_⟩
    simp [fLen, h1, bMulX, small_ok (hb b hbm) (hs b hbm), blkD]
  · have e : (bs.map blkD).map (fun x => match x with | .tup [.str s, .int t] => D.int ((s.length : Int) * t) | _ => .non) = (bs.map fun b => (b.1.length : Int) * b.2).map D.int := by
      rw [List.map_map, List.map_map]; rfl
    simp only [e]
    simp [fSum, listD, cellL, intsD_map, picksOf, -List.map_map]
theorem req_fits {cs : List Int} {d : D} {bs : List Blk} (h : listD d S = some (bs.map blkD)) (hl : bs.length ≤ 200) (hb : ∀ b ∈ bs, OkB b) (hs : Small bs) (hf : picksOf bs ≤ cs.sum) : gcR S (d_require_fits [.tup (cs.map D.int), d] S) = .ok .non S := by
  apply gcR_eq
  have : ¬ cs.sum < picksOf bs := by omega
  simp [d_require_fits, b_require_fits, picks_of h hl hb hs, fSum, listD, intsD_map, bGt, cInt, this]
end
end G30

set_option Elab.async false
set_option linter.all false
set_option maxRecDepth 100000
set_option maxHeartbeats 1000000
namespace G30
open PySem T
def at0 (cs : List Int) (k : Int) : Int := cs.getD k.toNat 0
def tot (cs : List Int) (t : Int) (l : List Int) : Int := l.foldl (fun t k => t + at0 cs k) t
def psums (cs : List Int) : Int → List Int → List Int
  | _, [] => []
  | t, k :: r => (t + at0 cs k) :: psums cs (t + at0 cs k) r
theorem psums_len (cs : List Int) : ∀ (t : Int) (l : List Int), (psums cs t l).length = l.length
  | _, [] => rfl
  | t, k :: r => by simp [psums, psums_len cs _ r]
theorem psums_snoc (cs : List Int) : ∀ (l : List Int) (t k : Int), psums cs t (l ++ [k]) = psums cs t l ++ [tot cs t l + at0 cs k]
  | [], t, k => rfl
  | a :: l, t, k => by
    show (t + at0 cs a) :: psums cs (t + at0 cs a) (l ++ [k]) = _
    rw [psums_snoc cs l]
    rfl
theorem tot_snoc (cs : List Int) (l : List Int) (t k : Int) : tot cs t (l ++ [k]) = tot cs t l + at0 cs k := by simp [tot]
theorem take_succ' {α : Type} {l : List α} {i : Nat} {x : α} (h : l[i]? = some x) : l.take (i + 1) = l.take i ++ [x] := by
  obtain ⟨hi, rfl⟩ := List.getElem?_eq_some_iff.mp h
  exact List.take_succ_eq_append_getElem hi
section
variable {S : Store}
theorem ix_tup {cs : List Int} {k : Int} (h1 : 0 ≤ k) (h2 : k < cs.length) : bIx (.tup (cs.map D.int)) (.int k) S = .ok (.int (at0 cs k)) S := by
  obtain ⟨n, rfl⟩ := Int.eq_ofNat_of_zero_le h1
  have hn : n < cs.length := by omega
  have e : L2.atI (cs.map D.int) (n : Int) = some (.int (at0 cs n)) := by
    unfold L2.atI L2.ixN
    rw [if_pos h1, if_pos (by simpa using h2)]
    show (cs.map D.int)[(n : Int).toNat]? = _
    rw [Int.toNat_natCast, List.getElem?_map, List.getElem?_eq_getElem hn]
    unfold at0
    simp [List.getD_eq_getElem?_getD, hn]
  unfold bIx
  dsimp only
  rw [e]
theorem psums_ok {f : FSem} {body : SEv} (hf : f = defF 5 (sSeq (sPar (lCons (eLst lNil) (lCons (eC (.int 0)) lNil)) (tgCons (tgN 2) (tgCons (tgN 3) tgNil))) (sSeq (sFor (tgN 4) (iSeq (eVar 1)) body) (sSeq (sRet (eVar 2)) sNil))))
    (hb : ∀ (cs : List Int) (k t : Int) (d1 : D) (acc : List Int) (N : T.Env → Store → Prop) (Q : D → Store → Prop), 0 ≤ k → k < cs.length → acc.length < lineN → N [some (.tup (cs.map D.int)), some d1, some (.ref S.length), some (.int (t + at0 cs k)), some (.int k)] (S ++ [.lst ((acc ++ [t + at0 cs k]).map D.int)]) →
      goodS (body [some (.tup (cs.map D.int)), some d1, some (.ref S.length), some (.int t), some (.int k)] (S ++ [.lst (acc.map D.int)])) N Q)
    {cs rk : List Int} (h : ∀ k ∈ rk, 0 ≤ k ∧ k < cs.length) (hl : rk.length ≤ 1000) : gcR S (f [.tup (cs.map D.int), .tup (rk.map D.int)] S) = .ok (.ref S.length) (S ++ [.lst ((psums cs 0 rk).map D.int)]) := by
  subst hf
  apply gcR_eq
  simp [tgCons, tgN, tgNil, seqIt]
  refine goodS.mono (w_forL (rk.map D.int) (fun i ρ S' => S' = S ++ [.lst ((psums cs 0 (rk.take i)).map D.int)] ∧ ∃ a, ρ = [some (.tup (cs.map D.int)), some (.tup (rk.map D.int)), some (.ref S.length), some (.int (tot cs 0 (rk.take i))), a]) (fun i ρ S' hi hl => by simp) (fun i x ρ S' hx hi => ?_) _ 0 _ _ (by simp) (Nat.zero_le _) ⟨rfl, _, rfl⟩) (fun ρ S' hi => ?_) (fun _ _ z => z)
  · obtain ⟨rfl, a, rfl⟩ := hi
    rw [List.getElem?_map] at hx
    obtain ⟨k, hk, rfl⟩ := Option.map_eq_some_iff.mp hx
    obtain ⟨k1, k2⟩ := h k (List.mem_of_getElem? hk)
    refine ⟨[some (.tup (cs.map D.int)), some (.tup (rk.map D.int)), some (.ref S.length), some (.int (tot cs 0 (rk.take i))), some (.int k)], by simp [tgN], ?_⟩
    refine hb cs k _ _ _ _ _ k1 k2 ?_ ?_
    · rw [psums_len, List.length_take]; unfold lineN; omega
    · rw [take_succ' hk, psums_snoc, tot_snoc]
      exact ⟨rfl, _, rfl⟩
  · obtain ⟨rfl, a, rfl⟩ := hi
    simp
    exact gc_list0 (n := 0) rfl (flatL_int _)
theorem prefix_ok {cs rk : List Int} (h : ∀ k ∈ rk, 0 ≤ k ∧ k < cs.length) (hl : rk.length ≤ 1000) : gcR S (d_prefix_sums [.tup (cs.map D.int), .tup (rk.map D.int)] S) = .ok (.ref S.length) (S ++ [.lst ((psums cs 0 rk).map D.int)]) := by
  refine psums_ok rfl (fun cs k t d1 acc N Q h1 h2 h3 hN => ?_) h hl
  simp [ix_tup h1 h2, bIAdd, kindD, methF_append, mAppend, h3]
  simpa using hN
theorem sums_ok {cs rk : List Int} (h : ∀ k ∈ rk, 0 ≤ k ∧ k < cs.length) (hl : rk.length ≤ 1000) : gcR S (d__law_sums [.tup (cs.map D.int), .tup (rk.map D.int)] S) = .ok (.ref S.length) (S ++ [.lst ((psums cs 0 rk).map D.int)]) := by
  refine psums_ok rfl (fun cs k t d1 acc N Q h1 h2 h3 hN => ?_) h hl
  simp [ix_tup h1 h2, bAdd, kindD, methF_append, mAppend, h3, tgN]
  simpa using hN
end
end G30

set_option Elab.async false
set_option linter.all false
set_option maxRecDepth 100000
set_option maxHeartbeats 1000000
namespace G30
open PySem T
def cnt (p : Nat) (x : List Nat) : Int := (x.count p : Nat)
def whole (b : Blk) (n : Int) : Int := if n / (b.1.length : Int) < b.2 then n / (b.1.length : Int) else b.2
def countT (p : Nat) : List Blk → Int → Int
  | [], _ => 0
  | b :: r, n => if whole b n < b.2 then whole b n * cnt p b.1 + cnt p (b.1.take (n - whole b n * b.1.length).toNat) else whole b n * cnt p b.1 + countT p r (n - whole b n * b.1.length)
def here (b : Blk) (n : Int) : Int := if (b.1.length : Int) * b.2 < n then (b.1.length : Int) * b.2 else n
def shareT (p : Nat) : List Blk → Int → Int
  | [], _ => 0
  | b :: r, n => here b n / (b.1.length : Int) * cnt p b.1 + cnt p (b.1.take (here b n % (b.1.length : Int)).toNat) + shareT p r (n - here b n)
theorem countT_cons {p : Nat} {b : Blk} {r : List Blk} {n : Int} : countT p (b :: r) n = if whole b n < b.2 then whole b n * cnt p b.1 + cnt p (b.1.take (n - whole b n * b.1.length).toNat) else whole b n * cnt p b.1 + countT p r (n - whole b n * b.1.length) := rfl
theorem shareT_cons {p : Nat} {b : Blk} {r : List Blk} {n : Int} : shareT p (b :: r) n = here b n / (b.1.length : Int) * cnt p b.1 + cnt p (b.1.take (here b n % (b.1.length : Int)).toNat) + shareT p r (n - here b n) := rfl
theorem shareT_zero {p : Nat} : ∀ {bs : List Blk}, (∀ b ∈ bs, OkB b) → shareT p bs 0 = 0
  | [], _ => rfl
  | b :: r, h => by
    have hb := h b (by simp)
    have h1 := hb.one
    have h2 := hb.pos
    have e : here b 0 = 0 := by
      unfold here
      rw [if_neg]
      have : 0 ≤ (b.1.length : Int) * b.2 := Int.mul_nonneg (by omega) (by omega)
      omega
    show here b 0 / _ * _ + cnt p (b.1.take (here b 0 % _).toNat) + shareT p r (0 - here b 0) = 0
    have hr : ∀ b ∈ r, OkB b := fun b hb => h b (by simp [hb])
    rw [e]
    simp [cnt, shareT_zero hr]
theorem share_count {p : Nat} : ∀ {bs : List Blk} {n : Int}, (∀ b ∈ bs, OkB b) → 0 ≤ n → shareT p bs n = countT p bs n
  | [], n, _, _ => rfl
  | b :: r, n, h, hn => by
    have hb := h b (by simp)
    have h1 := hb.one
    have h2 := hb.pos
    have hr : ∀ b ∈ r, OkB b := fun b hb => h b (by simp [hb])
    have hL : (0 : Int) < (b.1.length : Int) := by omega
    unfold shareT countT
    generalize hLL : (b.1.length : Int) = L at *
    have hw : whole b n = if n / L < b.2 then n / L else b.2 := by unfold whole; rw [hLL]
    have hh : here b n = if L * b.2 < n then L * b.2 else n := by unfold here; rw [hLL]
    by_cases hc : n / L < b.2
    · rw [hw, if_pos hc, if_pos hc]
      have h3 : n < L * b.2 := by
        have := (Int.ediv_lt_iff_lt_mul hL).mp hc
        rw [Int.mul_comm]; exact this
      rw [hh, if_neg (by omega)]
      have e1 : n - n / L * L = n % L := by rw [Int.mul_comm]; exact (Int.emod_def n L).symm
      rw [e1, show n - n = 0 by omega, shareT_zero hr]
      omega
    · rw [hw, if_neg hc, if_neg (by omega)]
      have h3 : L * b.2 ≤ n := by
        have : b.2 * L ≤ n := (Int.le_ediv_iff_mul_le hL).mp (by omega)
        rw [Int.mul_comm]; exact this
      have e0 : here b n = L * b.2 := by
        rw [hh]
        split
        · rfl
        · omega
      rw [e0]
      have e1 : L * b.2 / L = b.2 := Int.mul_ediv_cancel_left _ (by omega)
      have e2 : L * b.2 % L = 0 := Int.mul_emod_right _ _
      rw [e1, e2]
      have e3 : n - b.2 * L = n - L * b.2 := by rw [Int.mul_comm]
      rw [e3, share_count hr (by omega)]
      simp [cnt]
section
variable {S : Store}
theorem cnt_le (p : Nat) (x : List Nat) : 0 ≤ cnt p x ∧ cnt p x ≤ x.length := by
  unfold cnt
  have := List.count_le_length (a := p) (l := x)
  omega
theorem nat_abs_small {a : Int} (h0 : 0 ≤ a) (h : a < 2 ^ 1000) : a.natAbs < 2 ^ 1000 := by
  have : (a.natAbs : Int) < 2 ^ 1000 := by omega
  exact_mod_cast this
theorem mul_small {a b : Int} (h0 : 0 ≤ a) (h : a < 2 ^ 1000) (h1 : 0 ≤ b) (h2 : b ≤ 20) : mulOk a b = true :=
  mul_ok (nat_abs_small h0 h) (Nat.lt_of_le_of_lt (show b.natAbs ≤ 20 by omega) (Nat.lt_of_lt_of_le (show 20 < 2 ^ 5 by decide) (Nat.pow_le_pow_right (by decide) (by decide))))
theorem log_small {n : Nat} (h : n ≤ 20) : n.log2 < 9000 := by
  by_cases h0 : n = 0
  · subst h0; decide
  · exact (Nat.log2_lt h0).mpr (Nat.lt_of_le_of_lt h (Nat.lt_of_lt_of_le (show 20 < 2 ^ 5 by decide) (Nat.pow_le_pow_right (by decide) (by decide))))
theorem count_ok {d : D} {bs : List Blk} {p : Nat} {n : Int} (h : listD d S = some (bs.map blkD)) (hl : bs.length ≤ 200) (hb : ∀ b ∈ bs, OkB b) (hs : Small bs) (hn : 0 ≤ n) : gcR S (d_count_turns [d, .str [p], .int n] S) = .ok (.int (countT p bs n)) S := by
  apply gcR_eq
  obtain ⟨J, hJ, hJn, hat⟩ := listD_seq h
  simp [d_count_turns, b_count_turns, hJ, tgN]
  rw [hJn]
  refine goodS.mono (w_forL (bs.map blkD) (fun i ρ S' => S' = S ∧ ∃ f m a b c, 0 ≤ m ∧ f + countT p (bs.drop i) m = countT p bs n ∧ ρ = [some d, some (.str [p]), some (.int m), some (.int f), a, b, c]) (fun i ρ S' hi hl => ?_) (fun i x ρ S' hx hi => ?_) _ 0 _ S (by simp) (Nat.zero_le _) ⟨rfl, 0, n, _, _, _, hn, by simp, rfl⟩) (fun ρ S' hi => ?_) (fun _ _ z => z)
  · obtain ⟨rfl, _⟩ := hi
    exact hat _ h i
  · obtain ⟨rfl, f, m, a, b, c, hm, hf, rfl⟩ := hi
    rw [List.getElem?_map] at hx
    obtain ⟨bb, hbb, rfl⟩ := Option.map_eq_some_iff.mp hx
    have ok := hb bb (List.mem_of_getElem? hbb)
    have sm := hs bb (List.mem_of_getElem? hbb)
    have o1 := ok.one
    have o2 := ok.few
    have o3 := ok.pos
    have hlen : bb.1.length ≤ lineN := by unfold lineN; omega
    have hL : (0 : Int) < (bb.1.length : Int) := by omega
    have hlog : (bb.1.length : Int).natAbs.log2 < 9000 := log_small (by omega)
    have hw0 : 0 ≤ whole bb m ∧ whole bb m ≤ bb.2 ∧ whole bb m * bb.1.length ≤ m := by
      unfold whole
      have hd : 0 ≤ m / (bb.1.length : Int) := Int.ediv_nonneg hm (by omega)
      have hdm : m / (bb.1.length : Int) * bb.1.length ≤ m := Int.ediv_mul_le m (by omega)
      split
      · exact ⟨hd, by omega, hdm⟩
      · rename_i hc
        refine ⟨by omega, Int.le_refl _, ?_⟩
        exact Int.le_trans (Int.mul_le_mul_of_nonneg_right (by omega) (by omega)) hdm
    have hw1 : whole bb m < 2 ^ 1000 := by omega
    have hdrop : bs.drop i = bb :: bs.drop (i + 1) := by
      obtain ⟨hi, e⟩ := List.getElem?_eq_some_iff.mp hbb
      rw [← e]
      exact List.drop_eq_getElem_cons hi
    have hc := cnt_le p bb.1
    have hmul1 : mulOk (whole bb m) (cnt p bb.1) = true := mul_small hw0.1 hw1 hc.1 (by omega)
    have hmul2 : mulOk (whole bb m) (bb.1.length : Int) = true := mul_small hw0.1 hw1 (by omega) (by omega)
    have hmin : fMin [.int bb.2, .int (m / (bb.1.length : Int))] S' = .ok (.int (whole bb m)) S' := rfl
    have hm2 : 0 ≤ m - whole bb m * bb.1.length := by omega
    refine ⟨[some d, some (.str [p]), some (.int m), some (.int f), some (.str bb.1), some (.int bb.2), c], by simp [tgT, tgCons, tgN, tgNil, blkD], ?_⟩
    rw [hdrop] at hf
    have hce : ((bb.1.count p : Nat) : Int) = cnt p bb.1 := rfl
    simp only [cnt] at hmul1
    simp [hlen, show 0 < bb.1.length from o1, show bb.1.length.log2 < 9000 from hlog, hmin, tgN, hmul1, hmul2]
    rw [countT_cons] at hf
    by_cases hcc : whole bb m < bb.2
    · rw [if_pos hcc] at hf
      refine .inr ⟨hcc, ?_⟩
      rw [cut_take hm2]
      unfold cnt at hf
      omega
    · rw [if_neg hcc] at hf
      unfold cnt at hf
      exact .inl ⟨by omega, _, _, hm2, by omega, rfl, rfl⟩
  · obtain ⟨rfl, f, m, a, b, c, hm, hf, rfl⟩ := hi
    simp [countT] at hf
    simp [hf]
theorem share_ok {d : D} {bs : List Blk} {p : Nat} {n : Int} (h : listD d S = some (bs.map blkD)) (hb : ∀ b ∈ bs, OkB b) (hs : Small bs) (hn : 0 ≤ n) : gcR S (d__law_big_share [d, .str [p], .int n] S) = .ok (.int (countT p bs n)) S := by
  apply gcR_eq
  obtain ⟨J, hJ, hJn, hat⟩ := listD_seq h
  rw [← share_count hb hn]
  simp [d__law_big_share, b__law_big_share, hJ, tgN]
  rw [hJn]
  refine goodS.mono (w_forL (bs.map blkD) (fun i ρ S' => S' = S ∧ ∃ f m a b c e, 0 ≤ m ∧ f + shareT p (bs.drop i) m = shareT p bs n ∧ ρ = [some d, some (.str [p]), some (.int m), some (.int f), a, b, c, e]) (fun i ρ S' hi hl => ?_) (fun i x ρ S' hx hi => ?_) _ 0 _ S (by simp) (Nat.zero_le _) ⟨rfl, 0, n, _, _, _, _, hn, by simp, rfl⟩) (fun ρ S' hi => ?_) (fun _ _ z => z)
  · obtain ⟨rfl, _⟩ := hi
    exact hat _ h i
  · obtain ⟨rfl, f, m, a, b, c, e, hm, hf, rfl⟩ := hi
    rw [List.getElem?_map] at hx
    obtain ⟨bb, hbb, rfl⟩ := Option.map_eq_some_iff.mp hx
    have ok := hb bb (List.mem_of_getElem? hbb)
    have sm := hs bb (List.mem_of_getElem? hbb)
    have o1 := ok.one
    have o2 := ok.few
    have o3 := ok.pos
    have hlen : bb.1.length ≤ lineN := by unfold lineN; omega
    have hL : (0 : Int) < (bb.1.length : Int) := by omega
    have hlog : (bb.1.length : Int).natAbs.log2 < 9000 := log_small (by omega)
    have hsz : 0 ≤ (bb.1.length : Int) * bb.2 := Int.mul_nonneg (by omega) (by omega)
    have hh0 : 0 ≤ here bb m ∧ here bb m ≤ m ∧ here bb m ≤ (bb.1.length : Int) * bb.2 := by
      unfold here
      split <;> omega
    have hdrop : bs.drop i = bb :: bs.drop (i + 1) := by
      obtain ⟨hi, e⟩ := List.getElem?_eq_some_iff.mp hbb
      rw [← e]
      exact List.drop_eq_getElem_cons hi
    have hc := cnt_le p bb.1
    have hq0 : 0 ≤ here bb m / (bb.1.length : Int) := Int.ediv_nonneg hh0.1 (by omega)
    have hq1 : here bb m / (bb.1.length : Int) < 2 ^ 1000 := by
      have : here bb m / (bb.1.length : Int) ≤ bb.2 := by
        have := Int.ediv_le_ediv hL hh0.2.2
        rwa [Int.mul_ediv_cancel_left _ (by omega)] at this
      omega
    have hmul1 : mulOk (here bb m / (bb.1.length : Int)) (cnt p bb.1) = true := mul_small hq0 hq1 hc.1 (by omega)
    have hmul2 := small_ok ok sm
    have hmin : fMin [.int m, .int ((bb.1.length : Int) * bb.2)] S' = .ok (.int (here bb m)) S' := rfl
    have hr0 : 0 ≤ here bb m % (bb.1.length : Int) := Int.emod_nonneg _ (by omega)
    refine ⟨[some d, some (.str [p]), some (.int m), some (.int f), some (.str bb.1), some (.int bb.2), c, e], by simp [tgT, tgCons, tgN, tgNil, blkD], ?_⟩
    rw [hdrop] at hf
    simp only [cnt] at hmul1
    simp [hlen, show 0 < bb.1.length from o1, show bb.1.length.log2 < 9000 from hlog, hmin, tgN, hmul1, hmul2]
    rw [shareT_cons] at hf
    unfold cnt at hf
    refine ⟨_, _, ?_, ?_, rfl, rfl⟩
    · omega
    · rw [cut_take hr0]
      omega
  · obtain ⟨rfl, f, m, a, b, c, e, hm, hf, rfl⟩ := hi
    simp [shareT] at hf
    simp [hf]
end
end G30

set_option Elab.async false
set_option linter.all false
set_option maxRecDepth 100000
set_option maxHeartbeats 1000000
namespace G30
open PySem T
theorem psums_nonneg {cs : List Int} (h : ∀ c ∈ cs, 0 ≤ c) : ∀ (l : List Int) (t : Int), 0 ≤ t → ∀ x ∈ psums cs t l, 0 ≤ x
  | [], _, _, x, hx => by cases hx
  | k :: r, t, ht, x, hx => by
    have ha : 0 ≤ at0 cs k := by
      unfold at0
      rw [List.getD_eq_getElem?_getD]
      cases e : cs[k.toNat]? with
      | none => simp
      | some c => simpa using h c (List.mem_of_getElem? e)
    rcases List.mem_cons.mp hx with rfl | hx
    · omega
    · exact psums_nonneg h r _ (by omega) x hx
def sures (cs rk : List Int) (bs : List Blk) (p : Nat) : List Int := (psums cs 0 rk).map (countT p bs)
theorem sures_len {cs rk : List Int} {bs : List Blk} {p : Nat} : (sures cs rk bs p).length = rk.length := by simp [sures, psums_len]
section
variable {S : Store}
theorem sure_map {cs rk : List Int} {d : D} {bs : List Blk} {p : Nat} {G F : FSem} {f : FSem} (hf : f = defF 5 (sSeq (sRet (eLc [4] (tgN 4) (iSeq (eCall 2 G (lCons (eVar 0) (lCons (eVar 1) lNil)))) tYes (eCall 3 F (lCons (eVar 2) (lCons (eVar 3) (lCons (eVar 4) lNil)))))) sNil))
    (hG : gcR S (G [.tup (cs.map D.int), .tup (rk.map D.int)] S) = .ok (.ref S.length) (S ++ [.lst ((psums cs 0 rk).map D.int)]))
    (hF : ∀ n : Int, 0 ≤ n → gcR (S ++ [.lst ((psums cs 0 rk).map D.int)]) (F [d, .str [p], .int n] (S ++ [.lst ((psums cs 0 rk).map D.int)])) = .ok (.int (countT p bs n)) (S ++ [.lst ((psums cs 0 rk).map D.int)]))
    (hc : ∀ c ∈ cs, 0 ≤ c) (hl : rk.length ≤ 1000) : gcR S (f [.tup (cs.map D.int), .tup (rk.map D.int), d, .str [p]] S) = .ok (.ref S.length) (S ++ [.lst ((sures cs rk bs p).map D.int)]) := by
  subst hf
  apply gcR_eq
  simp [hG, seqIt, cellL]
  refine w_lcmap (l := (psums cs 0 rk).map D.int) (f := fun x => match x with | .int n => .int (countT p bs n) | _ => .non) (by simp) (fun j _ => by simp [cellL]) (by simp [psums_len]; unfold lineN; omega) (fun x hx => ?_) ?_
  · obtain ⟨n, hn, rfl⟩ := List.mem_map.mp hx
    have h0 := psums_nonneg hc rk 0 (Int.le_refl _) n hn
    simp [tgN, wipeE, hF n h0]
  · have e : ((psums cs 0 rk).map D.int).map (fun x => match x with | .int n => D.int (countT p bs n) | _ => .non) = (sures cs rk bs p).map D.int := by
      unfold sures
      rw [List.map_map, List.map_map]; rfl
    simp only [e]
    simp
    exact gc_list0 (n := 1) rfl (flatL_int _)
theorem sure_of {cs rk : List Int} {d : D} {bs : List Blk} {p : Nat} (h : Side cs rk d bs p S) (hs : Small bs) : gcR S (d_sure_of [.tup (cs.map D.int), .tup (rk.map D.int), d, .str [p]] S) = .ok (.ref S.length) (S ++ [.lst ((sures cs rk bs p).map D.int)]) :=
  sure_map rfl (prefix_ok h.rk.mem (by have := h.rk.len; have := h.cfew; omega)) (fun n hn => count_ok (listD_app h.seq) h.bfew h.bok hs hn) h.cpos (by have := h.rk.len; have := h.cfew; omega)
theorem law_sure {cs rk : List Int} {d : D} {bs : List Blk} {p : Nat} (h : Side cs rk d bs p S) (hs : Small bs) : gcR S (d__law_sure [.tup (cs.map D.int), .tup (rk.map D.int), d, .str [p]] S) = .ok (.ref S.length) (S ++ [.lst ((sures cs rk bs p).map D.int)]) :=
  sure_map rfl (sums_ok h.rk.mem (by have := h.rk.len; have := h.cfew; omega)) (fun n hn => share_ok (listD_app h.seq) h.bok hs hn) h.cpos (by have := h.rk.len; have := h.cfew; omega)
theorem sure_counts {cs rk : List Int} {d : D} {bs : List Blk} {p : Nat} (h : Side cs rk d bs p S) (hs : Small bs) (hf : picksOf bs ≤ cs.sum) : gcR S (d_sure_counts [.tup (cs.map D.int), .tup (rk.map D.int), d, .str [p]] S) = .ok (.ref S.length) (S ++ [.lst ((sures cs rk bs p).map D.int)]) := by
  apply gcR_eq
  simp [d_sure_counts, b_sure_counts, req_side h, req_fits h.seq h.bfew h.bok hs hf, sure_of h hs]
  exact gc_list0 (n := 0) rfl (flatL_int _)
/-! ### sure_bundle -/
def dif (l : List Int) (j : Nat) : Int := l.getD j 0 - (if j = 0 then 0 else l.getD (j - 1) 0)
theorem Rk.nodup {n : Nat} {rk : List Int} (h : Rk n rk) : rk.Nodup := by
  have h1 : (rI n).Nodup := by
    unfold rI
    exact List.pairwise_map.mpr (List.nodup_range.imp fun h e => h (by omega))
  rw [← h.sort] at h1
  exact (PySem.W.sortI_perm rk).nodup_iff.mp h1
theorem at0_set_ne {fs : List Int} {k k' v : Int} (h0 : 0 ≤ k) (h1 : 0 ≤ k') (hne : k ≠ k') : at0 (fs.set k.toNat v) k' = at0 fs k' := by
  unfold at0
  rw [List.getD_eq_getElem?_getD, List.getD_eq_getElem?_getD, List.getElem?_set_ne (by omega)]
theorem at0_set {fs : List Int} {k v : Int} (h0 : 0 ≤ k) (h : k < fs.length) : at0 (fs.set k.toNat v) k = v := by
  unfold at0
  rw [List.getD_eq_getElem?_getD, List.getElem?_set_self (by omega)]
  rfl
theorem bundle_ok {cs rk : List Int} {d : D} {bs : List Blk} {p : Nat} (h : Side cs rk d bs p S) (hs : Small bs) (hf : picksOf bs ≤ cs.sum) :
    ∃ fs : List Int, fs.length = cs.length ∧ (∀ (j : Nat) k, rk[j]? = some k → at0 fs k = dif (sures cs rk bs p) j) ∧ gcR S (d_sure_bundle [.tup (cs.map D.int), .tup (rk.map D.int), d, .str [p]] S) = .ok (.tup (fs.map D.int)) S := by
  have hlen : (sures cs rk bs p).length = rk.length := sures_len
  have key : goodR (d_sure_bundle [.tup (cs.map D.int), .tup (rk.map D.int), d, .str [p]] S) fun r S' => ∃ fs : List Int, fs.length = cs.length ∧ (∀ (j : Nat) k, rk[j]? = some k → at0 fs k = dif (sures cs rk bs p) j) ∧ r = .tup (fs.map D.int) ∧ ∃ G, S' = S ++ G := by
    generalize hus : sures cs rk bs p = us at *
    have hcf := h.cfew
    have hz1 : cs.length ≤ lineN := by unfold lineN; omega
    have hrep : (List.replicate cs.length [D.int 0]).flatten = List.replicate cs.length (D.int 0) := by
      induction cs.length with
      | zero => rfl
      | succ n ih => rw [List.replicate_succ, List.flatten_cons, ih, List.replicate_succ]; rfl
    have h63 : (cs.length : Int) < 9223372036854775808 := by omega
    have h1l : 1 ≤ lineN := by decide
    have hmul : bMulX (.ref (S.length + 1)) (.int (cs.length : Int)) (S ++ [.lst (us.map D.int), .lst [D.int 0]]) = .ok (.ref (S.length + 1 + 1)) (S ++ [.lst (us.map D.int), .lst [D.int 0], .lst (List.replicate cs.length (D.int 0))]) := by
      unfold bMulX
      simp [h63, hz1]
    obtain ⟨J, hJ, hJn, hat⟩ := zip_J (b := true) (x := .tup (rk.map D.int)) (y := .ref S.length) (S := S ++ [.lst (us.map D.int), .lst [D.int 0], .lst (List.replicate cs.length (D.int 0))]) (l := rk.map D.int) (l' := us.map D.int) rfl (by simp [srcL, cellL]) (by simp [hlen])
    have hsc := sure_counts h hs hf
    rw [hus] at hsc
    simp [d_sure_bundle, b_sure_bundle, hsc, tgN, tgCons, tgNil, hmul, hJ, h1l]
    rw [hJn]
    refine goodS.mono (w_forL (zipL (rk.map D.int) (us.map D.int)) (fun i ρ S' => ∃ fs : List Int, S' = S ++ [.lst (us.map D.int), .lst [D.int 0], .lst (fs.map D.int)] ∧ fs.length = cs.length ∧ (∀ (j : Nat) k, j < i → rk[j]? = some k → at0 fs k = dif us j) ∧ ∃ a b, ρ = [some (.tup (cs.map D.int)), some (.tup (rk.map D.int)), some d, some (.str [p]), some (.ref S.length), some (.ref (S.length + 1 + 1)), some (.int (if i = 0 then 0 else us.getD (i - 1) 0)), a, b]) (fun i ρ S' hi hl => ?_) (fun i x ρ S' hx hi => ?_) _ 0 _ _ (by simp [zipL, hlen]) (Nat.zero_le _) ⟨List.replicate cs.length 0, by simp, by simp, fun j k hj => by omega, _, _, rfl⟩) (fun ρ S' hi => ?_) (fun _ _ z => z)
    · obtain ⟨fs, rfl, _⟩ := hi
      exact hat _ rfl (by simp [srcL, cellL]) i (by simpa [zipL, hlen] using hl)
    · obtain ⟨fs, rfl, hfl, hfs, a, b, rfl⟩ := hi
      obtain ⟨x1, x2, e1, e2, rfl⟩ := zipL_get hx
      rw [List.getElem?_map] at e1 e2
      obtain ⟨k, hk, rfl⟩ := Option.map_eq_some_iff.mp e1
      obtain ⟨u, hu, rfl⟩ := Option.map_eq_some_iff.mp e2
      obtain ⟨k1, k2⟩ := h.rk.mem k (List.mem_of_getElem? hk)
      have hix : L2.ixN fs.length k = some k.toNat := by
        unfold L2.ixN
        rw [if_pos k1, if_pos (by omega)]
      refine ⟨[some (.tup (cs.map D.int)), some (.tup (rk.map D.int)), some d, some (.str [p]), some (.ref S.length), some (.ref (S.length + 1 + 1)), some (.int (if i = 0 then 0 else us.getD (i - 1) 0)), some (.int k), some (.int u)], by simp [tgT, tgCons, tgN, tgNil], ?_⟩
      have hset : ∀ v : Int, pSet (.ref (S.length + 1 + 1)) (.int k) (.int v) (S ++ [.lst (us.map D.int), .lst [D.int 0], .lst (fs.map D.int)]) = some (S ++ [.lst (us.map D.int), .lst [D.int 0], .lst ((fs.set k.toNat v).map D.int)]) := by
        intro v
        unfold pSet
        simp [hix]
      simp only [w_seq, w_sub, w_e2, w_var, w_asg, w_nil]
      simp [hset, tgN]
      refine ⟨fs.set k.toNat (u - (if i = 0 then 0 else us.getD (i - 1) 0)), by simp, by simpa using hfl, fun j k' hj hk' => ?_, ?_⟩
      · by_cases hji : j = i
        · subst hji
          rw [hk] at hk'
          cases hk'
          rw [at0_set k1 (by omega)]
          unfold dif
          have : us.getD j 0 = u := by rw [List.getD_eq_getElem?_getD, hu]; rfl
          rw [this]
        · have hne : k ≠ k' := fun e => by
            subst e
            obtain ⟨a1, b1⟩ := List.getElem?_eq_some_iff.mp hk
            obtain ⟨a2, b2⟩ := List.getElem?_eq_some_iff.mp hk'
            exact hji ((List.getElem_inj h.rk.nodup).mp (b2.trans b1.symm))
          rw [at0_set_ne k1 (h.rk.mem k' (List.mem_of_getElem? hk')).1 hne]
          exact hfs j k' (by omega) hk'
      · rw [List.getElem?_eq_some_iff] at hu
        obtain ⟨hh, rfl⟩ := hu
        simp [hh]
    · obtain ⟨fs, rfl, hfl, hfs, a, b, rfl⟩ := hi
      have hzl : (zipL (rk.map D.int) (us.map D.int)).length = rk.length := by simp [zipL, hlen]
      rw [hzl] at hfs
      simp [fTuple, listD, cellL]
      exact ⟨fs, hfl, fun j k hk => hfs j k (List.getElem?_eq_some_iff.mp hk).1 hk, rfl⟩
  have h2 : ∃ r S', d_sure_bundle [.tup (cs.map D.int), .tup (rk.map D.int), d, .str [p]] S = .ok r S' ∧ ∃ fs : List Int, fs.length = cs.length ∧ (∀ (j : Nat) k, rk[j]? = some k → at0 fs k = dif (sures cs rk bs p) j) ∧ r = .tup (fs.map D.int) ∧ ∃ G, S' = S ++ G := by
    cases e : d_sure_bundle [.tup (cs.map D.int), .tup (rk.map D.int), d, .str [p]] S with
    | ok r S' => rw [e] at key; exact ⟨r, S', rfl, key⟩
    | exc _ _ _ => rw [e] at key; exact key.elim
    | err => rw [e] at key; exact key.elim
  obtain ⟨r, S', e, fs, f1, f2, rfl, G, rfl⟩ := h2
  refine ⟨fs, f1, f2, gcR_eq ?_⟩
  rw [e]
  show gc S _ _ = _
  exact gc_flat0 (by simp [D.flat, flatL_int])
end
end G30

set_option Elab.async false
set_option linter.all false
set_option maxRecDepth 100000
set_option maxHeartbeats 1000000
namespace G30
open PySem T
theorem psums_tele {fs : List Int} : ∀ (l us : List Int) (t : Int), l.length = us.length → (∀ (j : Nat) k, l[j]? = some k → at0 fs k = us.getD j 0 - (if j = 0 then t else us.getD (j - 1) 0)) → psums fs t l = us
  | [], [], _, _, _ => rfl
  | [], _ :: _, _, h, _ => by simp at h
  | _ :: _, [], _, h, _ => by simp at h
  | k :: r, u :: us, t, h, hd => by
    have h0 := hd 0 k rfl
    simp at h0
    show (t + at0 fs k) :: psums fs (t + at0 fs k) r = u :: us
    have e : t + at0 fs k = u := by omega
    rw [e, psums_tele r us u (by simpa using h) fun j k' hj => ?_]
    have := hd (j + 1) k' (by simpa using hj)
    simp at this
    rw [this]
    cases j with
    | zero => simp
    | succ j => simp
theorem zip_le : ∀ (ws us : List Int), (zipL (ws.map D.int) (us.map D.int)).map (fun x => match x with | .tup [.int a, .int b] => D.bl (decide (a ≤ b)) | _ => .non) = ((ws.zip us).map fun p => decide (p.1 ≤ p.2)).map D.bl
  | [], _ => rfl
  | _ :: _, [] => rfl
  | a :: r, b :: u => by
    have ih := zip_le r u
    unfold zipL at ih ⊢
    simp only [List.map_cons, List.zipWith_cons_cons, List.zip_cons_cons]
    rw [ih]
def leAll (ws us : List Int) : Bool := (ws.zip us).all fun p => decide (p.1 ≤ p.2)
section
variable {S : Store}
theorem all_bl {bs : List Bool} {n : Nat} (h : cellL S[n]? = some (bs.map D.bl)) : fAll [.ref n] S = .ok (.bl (bs.all id)) S := by
  unfold fAll
  dsimp only
  rw [h]
  show (match (some (bs.map D.bl)).bind blsD with | some bs => R.ok (D.bl (bs.all id)) S | none => .err) = _
  rw [show (some (bs.map D.bl)).bind blsD = blsD (bs.map D.bl) from rfl, blsD_map]
theorem req_wanted {w : D} {ws : List Int} (h : listD w S = some (ws.map D.int)) (hl : ws.length ≤ 1000) : gcR S (d_require_wanted [w, .int (ws.length : Int)] S) = .ok .non S := by
  apply gcR_eq
  obtain ⟨t, ht, htt⟩ := listD_ty h
  obtain ⟨J, hJ, hJn, hat⟩ := en_J (c := 0) h
  simp [d_require_wanted, b_require_wanted, ht, listD_len h, bNe_int, hJ]
  refine ⟨by rcases htt with rfl | rfl <;> decide, ?_⟩
  rw [hJn]
  refine goodS.mono (w_forL (enL 0 (ws.map D.int)) (fun i ρ S' => S' = S ∧ ∃ a b, ρ = [some w, some (.int (ws.length : Int)), a, b]) (fun i ρ S' hi hl => ?_) (fun i x ρ S' hx hi => ?_) _ 0 _ S (by simp [enL_len]) (Nat.zero_le _) ⟨rfl, _, _, rfl⟩) (fun ρ S' hi => ?_) (fun _ _ z => z)
  · obtain ⟨rfl, _⟩ := hi
    exact hat _ h i (by simpa [enL_len] using hl)
  · obtain ⟨rfl, a, b, rfl⟩ := hi
    rw [enL_get] at hx
    obtain ⟨y, hy, rfl⟩ := Option.map_eq_some_iff.mp hx
    obtain ⟨v, hv, rfl⟩ := List.mem_map.mp (List.mem_of_getElem? hy)
    refine ⟨[some w, some (.int (ws.length : Int)), some (.int (0 + (i : Int))), some (.int v)], by simp [tgT, tgCons, tgN, tgNil], ?_⟩
    simp [is_int]
  · obtain ⟨rfl, _⟩ := hi
    simp
theorem is_sure {cs rk : List Int} {d : D} {bs : List Blk} {p : Nat} {w : D} {ws : List Int} (h : Side cs rk d bs p S) (hs : Small bs) (hf : picksOf bs ≤ cs.sum) (hw : listD w S = some (ws.map D.int)) (hl : ws.length = cs.length) :
    gcR S (d_is_sure [.tup (cs.map D.int), .tup (rk.map D.int), d, .str [p], w] S) = .ok (.bl (leAll ws (sures cs rk bs p))) S := by
  apply gcR_eq
  have hul : (sures cs rk bs p).length = ws.length := by rw [sures_len, h.rk.len, hl]
  generalize hus : sures cs rk bs p = us at *
  have hso := sure_of h hs
  rw [hus] at hso
  have hcf := h.cfew
  have hrw := req_wanted hw (by omega)
  rw [hl] at hrw
  obtain ⟨J, hJ, hJn, hat⟩ := zip_J (b := true) (x := w) (y := .ref S.length) (S := S ++ [.lst (us.map D.int)]) (l := ws.map D.int) (l' := us.map D.int) (listD_src (listD_app hw)) (by simp [srcL, cellL]) (by simp [hul])
  simp [d_is_sure, b_is_sure, req_side h, hrw, req_fits h.seq h.bfew h.bok hs hf, hso, tgN, hJ]
  refine w_lcmap (l := zipL (ws.map D.int) (us.map D.int)) (f := fun x => match x with | .tup [.int a, .int b] => .bl (decide (a ≤ b)) | _ => .non) (by rw [hJn]; simp [zipL, hul]) (fun j hj => hat _ (listD_src (listD_app hw)) (by simp [srcL, cellL]) j (by simpa [zipL, hul] using hj)) (by simp [zipL, hul]; unfold lineN; omega) (fun x hx => ?_) ?_
  · obtain ⟨j, hj, e⟩ := List.getElem_of_mem hx
    obtain ⟨x1, x2, e1, e2, rfl⟩ := zipL_get (List.getElem?_eq_some_iff.mpr ⟨hj, e⟩)
    rw [List.getElem?_map] at e1 e2
    obtain ⟨a, ha, rfl⟩ := Option.map_eq_some_iff.mp e1
    obtain ⟨b, hb, rfl⟩ := Option.map_eq_some_iff.mp e2
    refine ⟨[some (.tup (cs.map D.int)), some (.tup (rk.map D.int)), some d, some (.str [p]), some w, some (.ref S.length), some (.int a), some (.int b)], by simp [tgT, tgCons, tgN, tgNil, wipeE], ?_⟩
    simp
  · have e := zip_le ws us
    simp only [e]
    simp
    rw [all_bl (bs := (ws.zip us).map fun p => decide (p.1 ≤ p.2)) (by simp [cellL])]
    simp [leAll, List.all_map]
end
end G30

set_option Elab.async false
set_option linter.all false
set_option maxRecDepth 100000
set_option maxHeartbeats 1000000
namespace G30
open PySem T
theorem e_take : d__law_take = defF 4 bTake := rfl
theorem e_pick : d__law_pick = defF 2 (bPick (defF 4 bTake)) := rfl
theorem e_rank : d__law_ranking = defF 2 (bRank (defF 4 (bShuf (defF 4 bTake)))) := rfl
theorem e_source : d__law_source = defF 1 bSource := rfl
theorem rk_of {n : Nat} {q : List Int} (h : q.Perm (T.rI n)) : Rk n q := by
  have e : T.rI n = rI n := rfl
  rw [e] at h
  refine ⟨by rw [h.length_eq]; simp [rI], ?_, fun k hk => ?_⟩
  · have hs : (rI n).Pairwise (· ≤ ·) := by
      unfold rI
      exact List.pairwise_map.mpr (List.pairwise_lt_range.imp fun h => by omega)
    exact (PySem.W.eq_sortI h.symm hs).symm
  · have := h.mem_iff.mp hk
    unfold rI at this
    obtain ⟨i, hi, rfl⟩ := List.mem_map.mp this
    have := List.mem_range.mp hi
    omega
theorem log_lim {v : Int} (h0 : 0 ≤ v) (h : v < 2 ^ 1000) : v.natAbs.log2 < 9000 := by
  by_cases e : v.natAbs = 0
  · rw [e]; decide
  · refine Nat.lt_of_lt_of_le ((Nat.log2_lt e).mpr (show v.natAbs < 2 ^ 1000 from ?_)) (by decide)
    have : (v.natAbs : Int) < 2 ^ 1000 := by omega
    exact_mod_cast this
section
variable {S : Store} {s : Nat}
def OkC (y : D) : Prop := ∃ c : Int, y = .int c ∧ 0 ≤ c
theorem ints_of : ∀ acc : List D, (∀ y ∈ acc, OkC y) → ∃ cs : List Int, acc = cs.map D.int ∧ ∀ c ∈ cs, 0 ≤ c
  | [], _ => ⟨[], rfl, fun c hc => by cases hc⟩
  | a :: r, h => by
    obtain ⟨cs, rfl, hx⟩ := ints_of r fun y hy => h y (List.mem_cons_of_mem _ hy)
    obtain ⟨c, rfl, hc⟩ := h a List.mem_cons_self
    exact ⟨c :: cs, rfl, fun z hz => by
      rcases List.mem_cons.mp hz with rfl | hz
      · exact hc
      · exact hx z hz⟩
theorem supply_ok {σ : Sg} {b : Nat} {lim : Int} (hs : S[s]? = some (sgC σ)) (hb : okG b σ) (hb' : b < 1000000) (h0 : 0 < lim) (h1 : lim < 2 ^ 1000) :
    goodR (gcR S (d__law_supply [.ref s, .int 9, .int lim] S)) fun r T => ∃ (σ' : Sg) (cs : List Int), cs.length ≤ 9 ∧ (∀ c ∈ cs, 0 ≤ c) ∧ r = .tup (cs.map D.int) ∧ T = S.set s (sgC σ') ∧ okG (b + 100) σ' := by
  refine gcR_good ?_
  have hlt := get_lt hs
  have hlg := log_lim (by omega) h1
  simp [d__law_supply, b__law_supply, e_take, e_pick]
  refine (take_ok hs hb (by omega) (by decide) (by decide +kernel)).mono fun r T h => ?_
  obtain ⟨i, σ1, rfl, hi0, hi1, rfl, ho1⟩ := h
  obtain ⟨n, rfl⟩ := Int.eq_ofNat_of_zero_le hi0
  have hr : okR (n : Int) = true := by unfold okR; simp; omega
  simp [tgN, hr]
  have hS : S.set s (sgC σ1) = S.set s (sgC σ1) ++ [] := by simp
  rw [hS]
  refine w_lcdraw OkC 2 (by unfold lineN; omega) ho1 (fun i σ' G' hi ho => ?_) fun acc σ' G' hl hp ho => ?_
  · refine ⟨_, by simp [wipeE]; rfl, ?_⟩
    simp
    refine (takeA hlt ho (by omega) h0 hlg).mono fun r T h => ?_
    obtain ⟨i, σ2, rfl, hi0, hi1, rfl, ho2⟩ := h
    simp
    refine ⟨by decide, ?_⟩
    refine (pickA hlt ho2 (by omega) (by simp) (by simp; decide) rfl).mono fun r T h => ?_
    obtain ⟨hr, σ3, rfl, ho3⟩ := h
    refine ⟨?_, σ3, ⟨_, rfl⟩, ho3⟩
    simp at hr
    rcases hr with rfl | rfl | rfl
    · exact ⟨_, rfl, by decide⟩
    · exact ⟨_, rfl, by decide⟩
    · exact ⟨_, rfl, hi0⟩
  · obtain ⟨cs, rfl, hc⟩ := ints_of acc hp
    rw [List.length_map] at hl
    simp [fTuple, listD, cellL]
    exact ⟨_, _, gc_setA (sgC_flat _) (by simp [D.flat, flatL_int]), σ', cs, by omega, hc, rfl, rfl, ho.le (by omega)⟩
end
end G30

set_option Elab.async false
set_option linter.all false
set_option maxRecDepth 100000
set_option maxHeartbeats 1000000
namespace G30
open PySem T
attribute [local irreducible] defF eMt eLc eCall eB lCons gcR
theorem g0 {G G' : Store} {c : Cell} (h : G[0]? = some c) : (G ++ G')[0]? = some c := by
  rw [List.getElem?_append_left (List.getElem?_eq_some_iff.mp h).1]; exact h
theorem picks_snoc (bs : List Blk) (b : Blk) : picksOf (bs ++ [b]) = picksOf bs + (b.1.length : Int) * b.2 := by simp [picksOf]
section
variable {S G : Store} {s : Nat}
theorem setSG0 {c d : Cell} : (S.set s c ++ G).set S.length d = S.set s c ++ G.set 0 d := by rw [List.set_append_right _ _ (by simp)]; simp
theorem flatL_blk (bs : List Blk) : D.flatL (bs.map blkD) = true := by
  induction bs with
  | nil => rfl
  | cons b r ih => simp [D.flatL, blkD, D.flat, ih]
theorem app_at {l : List D} {y : D} {c : Cell} (h : G[0]? = some (.lst l)) (hl : l.length < lineN) : mAppend (.ref S.length) [y] (S.set s c ++ G) = .ok .non (S.set s c ++ G.set 0 (.lst (l ++ [y]))) := by
  unfold mAppend
  dsimp only
  rw [getS0, h]
  dsimp only
  rw [if_pos hl, setSG0]
theorem blocks_ok {σ : Sg} {b : Nat} {room lim : Int} (hs : S[s]? = some (sgC σ)) (hb : okG b σ) (hb' : b < 1000000) (hr : 0 ≤ room) (h0 : 0 < lim) (h1 : lim < 2 ^ 1000) :
    goodR (gcR S (d__law_blocks [.ref s, .int room, .int lim] S)) fun r T => ∃ (σ' : Sg) (bs : List Blk), bs.length ≤ 5 ∧ (∀ b ∈ bs, OkB b) ∧ (∀ b ∈ bs, b.2 ≤ lim) ∧ picksOf bs ≤ room ∧ r = .ref S.length ∧ T = S.set s (sgC σ') ++ [.lst (bs.map blkD)] ∧ okG (b + 1000) σ' := by
  refine gcR_good ?_
  have hlt := get_lt hs
  have hlg := log_lim (by omega) h1
  simp [d__law_blocks, b__law_blocks, e_take, e_pick, tgN, -Prod.forall]
  refine (take_ok (σ := σ) (by rw [get_app hlt]; exact hs) hb (by omega) (by decide) (by decide +kernel)).mono fun r T h => ?_
  obtain ⟨i, σ1, rfl, hi0, hi1, rfl, ho1⟩ := h
  obtain ⟨n, rfl⟩ := Int.eq_ofNat_of_zero_le hi0
  have hro : okR (n : Int) = true := by unfold okR; simp; omega
  refine ⟨_, rfl, hro, ?_⟩
  rw [set_app hlt]
  refine goodS.mono (w_forL ((T.rI n).map D.int) (fun i ρ S' => ∃ (σ' : Sg) (bs : List Blk) (G : Store) (room' : Int) (a b1 c d : Option D), S' = S.set s (sgC σ') ++ G ∧ G[0]? = some (.lst (bs.map blkD)) ∧ bs.length ≤ i ∧ (∀ b ∈ bs, OkB b) ∧ (∀ b ∈ bs, b.2 ≤ lim) ∧ picksOf bs + room' = room ∧ 0 ≤ room' ∧ okG (b + 1 + 30 * i) σ' ∧ ρ = [some (.ref s), some (.int room'), some (.int lim), some (.ref S.length), a, b1, c, d, none]) (fun i ρ S' hi hl => rng_at (by rw [rI_len] at hl; exact hl)) (fun i x ρ S' hx hi => ?_) _ 0 _ _ (by rw [rI_len, rng_n]; omega) (Nat.zero_le _) ⟨σ1, [], [.lst []], room, none, none, none, none, rfl, rfl, by simp, by simp, by simp, by simp [picksOf], hr, by simpa using ho1, rfl⟩) (fun ρ S' hi => ?_) (fun _ _ z => z)
  · obtain ⟨rfl, hin⟩ := rI_get hx
    obtain ⟨σ', bs, G, room', a, b1, c, d, rfl, hG, hbl, hbo, hbt, hpk, hro', ho, rfl⟩ := hi
    refine ⟨_, by simp [tgN]; rfl, ?_⟩
    simp only [w_seq, w_asg, w_e2, w_c, w_call, w_lcons, w_lnil, w_lst, w_var, List.length_set, List.length_append, List.append_assoc]
    refine ⟨_, rfl, _, rfl, by decide, rfl, ?_⟩
    refine (pickA hlt ho (by omega) (by simp) (by simp; decide) rfl).mono fun r T h => ?_
    obtain ⟨hrm, σ2, rfl, ho2⟩ := h
    have hrv : ∃ v : Int, r = .int v ∧ 0 < v ∧ v ≤ 20 := by
      simp at hrm
      rcases hrm with rfl | rfl
      · exact ⟨3, rfl, by decide, by decide⟩
      · exact ⟨20, rfl, by decide, by decide⟩
    obtain ⟨v, rfl, hv0, hv1⟩ := hrv
    refine ⟨rfl, ?_⟩
    refine (takeA hlt ho2 (by omega) hv0 (log_lim (by omega) (by omega))).mono fun r T h => ?_
    obtain ⟨q, σ3, rfl, hq0, hq1, rfl, ho3⟩ := h
    obtain ⟨m, rfl⟩ := Int.eq_ofNat_of_zero_le hq0
    obtain ⟨n5, hn5⟩ : ∃ n5 : Nat, (n5 : Int) = 1 + (m : Int) := ⟨m + 1, by omega⟩
    rw [bAdd_int, ← hn5]
    refine ⟨_, by simp [tgN]; rfl, ?_⟩
    have hsg := fun ρ => signs_ok (S := S) (s := s) (G := G ++ [.lst [D.int 3, .int 20]]) (ρ := ρ) (j := 5) (k := 8) (n := n5) (P := fun r T => ∃ (x : List Nat) (σ' : Sg) (G' : Store), r = .str x ∧ T = S.set s (sgC σ') ++ ((G ++ [.lst [D.int 3, .int 20]]) ++ G') ∧ x.length = n5 ∧ (∀ c ∈ x, c = 65 ∨ c = 66) ∧ okG (b + 1 + 30 * i + 1 + 1 + n5) σ') hlt ho3 (by omega) (by omega)
    refine (hsg [some (.ref s), some (.int room'), some (.int lim), some (.ref S.length), some (.int (i : Int)), some (.int (n5 : Int)), c, d, none] rfl rfl (by simp) (by decide) fun x σ4 G4 h1 h2 h3 => ⟨x, σ4, G4, rfl, rfl, h1, h2, h3⟩).mono fun r T h => ?_
    obtain ⟨x, σ4, G4, rfl, rfl, hxl, hxa, ho4⟩ := h
    refine ⟨_, by simp [tgN]; rfl, ?_⟩
    simp only [w_b, w_lcons, w_lnil, w_e2, w_c, w_call, w_var]
    refine ⟨_, rfl, _, rfl, rfl, ?_⟩
    refine (takeA hlt ho4 (by omega) h0 hlg).mono fun r T h => ?_
    obtain ⟨t, σ5, rfl, ht0, ht1, rfl, ho5⟩ := h
    rw [bAdd_int]
    refine ⟨_, rfl, _, rfl, ?_⟩
    have hdv : ∀ S', bDiv (.int room') (.int (n5 : Int)) S' = .ok (.int (room' / (n5 : Int))) S' := fun S' => bDiv_int (by omega) (log_lim (by omega) (by omega))
    rw [hdv]
    have hmn : ∀ (a b : Int) S', fMin [.int a, .int b] S' = .ok (.int (if b < a then b else a)) S' := fun _ _ _ => rfl
    rw [w_ok, hmn, w_ok]
    have hd0 : 0 ≤ room' / (n5 : Int) := Int.ediv_nonneg hro' (by omega)
    have hd1 : (n5 : Int) * (room' / (n5 : Int)) ≤ room' := Int.mul_ediv_self_le (by omega)
    generalize hw : (if room' / (n5 : Int) < 1 + t then room' / (n5 : Int) else 1 + t) = w
    have hw0 : 0 ≤ w := by rw [← hw]; split <;> omega
    have hw1 : w ≤ lim := by rw [← hw]; split <;> omega
    have hw2 : w ≤ room' / (n5 : Int) := by rw [← hw]; split <;> omega
    have hw3 : (n5 : Int) * w ≤ room' := Int.le_trans (Int.mul_le_mul_of_nonneg_left hw2 (by omega)) hd1
    refine ⟨_, by simp [tgN]; rfl, ?_⟩
    simp only [w_nil, w_if, w_tb, w_e2, w_var, w_c]
    have hG4 := g0 (G' := G4) (g0 (G' := [.lst [D.int 3, .int 20]]) hG)
    generalize hG5 : G ++ [.lst [D.int 3, .int 20]] ++ G4 = G5 at *
    refine ⟨_, rfl, ?_⟩
    rw [bGt_int]
    refine ⟨_, rfl, ?_⟩
    have hxx : (x.length : Int) = 1 + (m : Int) := by omega
    by_cases hwp : 0 < w
    · rw [decide_eq_true hwp, if_pos rfl]
      simp only [w_seq, w_drop, w_mt, w_lcons, w_lnil, w_tup, w_var, w_asg, w_e2, w_nil]
      refine ⟨_, rfl, mAppend, ?_, _, rfl, _, rfl, by show 2 ≤ lineN; decide, ?_⟩
      · unfold kindD
        dsimp only
        rw [getS0, hG4]
        exact methF_append
      · rw [app_at hG4 (by rw [List.length_map]; unfold lineN; omega), w_ok]
        refine ⟨_, rfl, _, rfl, _, rfl, ?_⟩
        rw [bMulX_int (small_ok (b := (x, w)) ⟨by show 1 ≤ x.length; omega, by show x.length ≤ 20; omega, hxa, by show 1 ≤ w; omega⟩ (by show w < _; omega) |> fun h => by rw [← hxl]; exact h), w_ok, bSub_int, w_ok]
        refine ⟨_, by simp [tgN]; rfl, ?_⟩
        refine ⟨σ5, bs ++ [(x, w)], G5.set 0 (.lst (bs.map blkD ++ [.tup [.str x, .int w]])), room' - n5 * w, _, _, _, _, rfl, ?_, ?_, ?_, ?_, ?_, ?_, ?_, rfl⟩
        · rw [List.getElem?_set_self (List.getElem?_eq_some_iff.mp hG4).1]
          simp [blkD]
        · simp; omega
        · intro z hz
          rcases List.mem_append.mp hz with hz | hz
          · exact hbo z hz
          · cases List.mem_singleton.mp hz
            exact ⟨by show 1 ≤ x.length; omega, by show x.length ≤ 20; omega, hxa, by show 1 ≤ w; omega⟩
        · intro z hz
          rcases List.mem_append.mp hz with hz | hz
          · exact hbt z hz
          · cases List.mem_singleton.mp hz
            exact hw1
        · rw [picks_snoc]
          show picksOf bs + (x.length : Int) * w + _ = _
          rw [show (x.length : Int) = n5 by omega]; omega
        · omega
        · exact ho5.le (by omega)
    · rw [decide_eq_false hwp, if_neg (by simp)]
      exact ⟨σ5, bs, G5, room', _, _, _, _, rfl, hG4, by omega, hbo, hbt, hpk, hro', ho5.le (by omega), rfl⟩
  · obtain ⟨σ', bs, G, room', a, b1, c, d, rfl, hG, hbl, hbo, hbt, hpk, hro', ho, rfl⟩ := hi
    rw [rI_len] at hbl ho
    simp [-Prod.forall]
    have := gc_setL (S := S) (s := s) (n := 0) (sgC_flat σ') hG (flatL_blk bs)
    exact ⟨_, _, this, σ', bs, by omega, hbo, hbt, by omega, rfl, rfl, ho.le (by omega)⟩
end
end G30

set_option Elab.async false
set_option linter.all false
set_option maxRecDepth 100000
set_option maxHeartbeats 1000000
namespace G30
open PySem T
attribute [local irreducible] defF eMt eLc eCall eB lCons gcR
/-- a game that the program takes -/
structure Game (cs rk : List Int) (bs : List Blk) : Prop where
  cpos : ∀ c ∈ cs, 0 ≤ c
  cfew : cs.length ≤ 60
  rk : Rk cs.length rk
  bfew : bs.length ≤ 200
  bok : ∀ b ∈ bs, OkB b
  small : Small bs
  fits : picksOf bs ≤ cs.sum
section
variable {S G : Store} {s : Nat}
theorem getSet {c : Cell} (h : s < S.length) : (S.set s c ++ G)[s]? = some c := by rw [get_app (by simpa using h), get_set h]
theorem setSet {c d : Cell} (h : s < S.length) : (S.set s c ++ G).set s d = S.set s d ++ G := by rw [set_app (by simpa using h), List.set_set]
theorem supplyA {σ : Sg} {b : Nat} {lim : Int} (hlt : s < S.length) (hb : okG b σ) (hb' : b < 1000000) (h0 : 0 < lim) (h1 : lim < 2 ^ 1000) :
    goodR (gcR (S.set s (sgC σ) ++ G) (d__law_supply [.ref s, .int 9, .int lim] (S.set s (sgC σ) ++ G))) fun r T => ∃ (σ' : Sg) (cs : List Int), cs.length ≤ 9 ∧ (∀ c ∈ cs, 0 ≤ c) ∧ r = .tup (cs.map D.int) ∧ T = S.set s (sgC σ') ++ G ∧ okG (b + 100) σ' := by
  refine (supply_ok (getSet hlt) hb hb' h0 h1).mono fun r T h => ?_
  obtain ⟨σ', cs, h1, h2, h3, rfl, h5⟩ := h
  exact ⟨σ', cs, h1, h2, h3, setSet hlt, h5⟩
theorem blocksA {σ : Sg} {b : Nat} {room lim : Int} (hlt : s < S.length) (hb : okG b σ) (hb' : b < 1000000) (hr : 0 ≤ room) (h0 : 0 < lim) (h1 : lim < 2 ^ 1000) :
    goodR (gcR (S.set s (sgC σ) ++ G) (d__law_blocks [.ref s, .int room, .int lim] (S.set s (sgC σ) ++ G))) fun r T => ∃ (σ' : Sg) (bs : List Blk), bs.length ≤ 5 ∧ (∀ b ∈ bs, OkB b) ∧ (∀ b ∈ bs, b.2 ≤ lim) ∧ picksOf bs ≤ room ∧ r = .ref (S.length + G.length) ∧ T = S.set s (sgC σ') ++ (G ++ [.lst (bs.map blkD)]) ∧ okG (b + 1000) σ' := by
  refine (blocks_ok (getSet hlt) hb hb' hr h0 h1).mono fun r T h => ?_
  obtain ⟨σ', bs, h1, h2, h3, h4, h5, rfl, h7⟩ := h
  exact ⟨σ', bs, h1, h2, h3, h4, by rw [h5]; simp, by rw [setSet hlt, List.append_assoc], h7⟩
theorem rankA {σ : Sg} {b n : Nat} (hlt : s < S.length) (hb : okG b σ) (hb' : b < 1000000) (hn : n ≤ 60) :
    goodR (gcR (S.set s (sgC σ) ++ G) (d__law_ranking [.ref s, .int (n : Int)] (S.set s (sgC σ) ++ G))) fun r T => ∃ (σ' : Sg) (rk : List Int), Rk n rk ∧ r = .tup (rk.map D.int) ∧ T = S.set s (sgC σ') ++ G ∧ okG (b + 60) σ' := by
  rw [e_rank]
  refine (rank_ok (n := n) (getSet hlt) hb (by omega) (by omega)).mono fun r T h => ?_
  obtain ⟨σ', q, h1, h2, rfl, h4⟩ := h
  exact ⟨σ', q, rk_of h1, h2, setSet hlt, h4.le (by omega)⟩
theorem gc_tr {T : Store} {a b : D} {n : Nat} : gc S (.tup [a, b, .ref n]) T = (.tup [a, b, .ref n], T) := by
  have h : (D.tup [a, b, .ref n]).flat = false := by
    show D.flatL [a, b, .ref n] = false
    simp [D.flatL, D.flat]
  unfold gc
  rw [h]
  cases oldOk S T <;> rfl
theorem sum_nn : ∀ {cs : List Int}, (∀ c ∈ cs, 0 ≤ c) → 0 ≤ cs.sum
  | [], _ => by decide
  | c :: r, h => by
    have h1 := h c List.mem_cons_self
    have h2 := sum_nn (cs := r) fun x hx => h x (List.mem_cons_of_mem _ hx)
    rw [List.sum_cons]; omega
theorem small_of {bs : List Blk} {lim : Int} (h : ∀ b ∈ bs, b.2 ≤ lim) (hl : lim < 2 ^ 1000) : Small bs := fun b hb => by
  have := h b hb
  omega
theorem any_ok {σ : Sg} {b : Nat} (hs : S[s]? = some (sgC σ)) (hb : okG b σ) (hb' : b < 100000) :
    goodR (gcR S (d__law_any_game [.ref s] S)) fun r T => ∃ (σ' : Sg) (cs rk : List Int) (bs : List Blk) (k : Nat) (G : Store), Game cs rk bs ∧ r = .tup [.tup (cs.map D.int), .tup (rk.map D.int), .ref (S.length + k)] ∧ T = S.set s (sgC σ') ++ G ∧ G[k]? = some (.lst (bs.map blkD)) ∧ okG (b + 5000) σ' := by
  refine gcR_good ?_
  have hlt := get_lt hs
  rw [d__law_any_game, w_def]
  unfold b__law_any_game
  simp only [w_seq, w_asg, w_call, w_lcons, w_lnil, w_var, w_lst, w_c, w_e2, e_pick]
  refine ⟨_, rfl, ?_⟩
  rw [bPow_int (by decide), w_ok]
  refine ⟨by show 4 ≤ lineN; decide, rfl, ?_⟩
  have hS : S ++ [.lst ([.int 4, .int 9, .int 40, .int (10 ^ (30 : Int).toNat)] : List D)] = S.set s (sgC σ) ++ [.lst ([.int 4, .int 9, .int 40, .int (10 ^ (30 : Int).toNat)] : List D)] := by rw [set_self hs]
  rw [hS]
  refine (pickA0 hlt hb (by omega) (by simp) (by show 4 ≤ lineN; decide) rfl).mono fun r T h => ?_
  obtain ⟨hr, σ1, rfl, ho1⟩ := h
  obtain ⟨v, rfl, hv0, hv1⟩ : ∃ v : Int, r = .int v ∧ 0 < v ∧ v < 2 ^ 1000 := by
    simp at hr
    rcases hr with rfl | rfl | rfl | rfl
    · exact ⟨_, rfl, by decide, by decide⟩
    · exact ⟨_, rfl, by decide, by decide⟩
    · exact ⟨_, rfl, by decide, by decide⟩
    · exact ⟨_, rfl, by decide, by decide⟩
  refine ⟨_, by simp [tgN]; rfl, ?_⟩
  refine ⟨_, rfl, _, rfl, rfl, ?_⟩
  refine (supplyA hlt ho1 (by omega) hv0 hv1).mono fun r T h => ?_
  obtain ⟨σ2, cs, hc1, hc2, rfl, rfl, ho2⟩ := h
  refine ⟨_, by simp [tgN]; rfl, ?_⟩
  simp only [w_b, w_lcons, w_lnil, w_var, w_call, w_lst, w_c, w_e2]
  have hsum : ∀ S', fSum [.tup (cs.map D.int)] S' = .ok (.int cs.sum) S' := fun S' => by
    unfold fSum
    dsimp only [listD, Option.bind_some]
    rw [intsD_map]
  refine ⟨_, rfl, _, rfl, ?_⟩
  rw [hsum, w_ok]
  refine ⟨_, rfl, ?_⟩
  rw [bPow_int (by decide), w_ok]
  refine ⟨by show 3 ≤ lineN; decide, rfl, ?_⟩
  simp only [List.append_assoc, List.length_append, List.length_set]
  refine (pickA hlt ho2 (by omega) (by simp) (by show 3 ≤ lineN; decide) rfl).mono fun r T h => ?_
  obtain ⟨hr, σ3, rfl, ho3⟩ := h
  obtain ⟨lim, rfl, hl0, hl1⟩ : ∃ v : Int, r = .int v ∧ 0 < v ∧ v < 2 ^ 1000 := by
    simp at hr
    rcases hr with rfl | rfl | rfl
    · exact ⟨_, rfl, by decide, by decide⟩
    · exact ⟨_, rfl, by decide, by decide⟩
    · exact ⟨_, rfl, by decide, by decide⟩
  refine ⟨rfl, ?_⟩
  refine (blocksA hlt ho3 (by omega) (sum_nn hc2) hl0 hl1).mono fun r T h => ?_
  obtain ⟨σ4, bs, hb1, hb2, hb3, hb4, rfl, rfl, ho4⟩ := h
  refine ⟨_, by simp [tgN]; rfl, ?_⟩
  simp only [w_ret, w_tup, w_lcons, w_lnil, w_var, w_call, w_b]
  refine ⟨_, rfl, _, rfl, _, rfl, ?_⟩
  rw [fLen_tup, w_ok, List.length_map]
  refine ⟨rfl, ?_⟩
  refine (rankA (n := cs.length) hlt ho4 (by omega) (by omega)).mono fun r T h => ?_
  obtain ⟨σ5, rk, hk, rfl, rfl, ho5⟩ := h
  refine ⟨_, rfl, by show 3 ≤ lineN; decide, ?_⟩
  refine ⟨_, _, gc_tr, σ5, cs, rk, bs, _, _, ⟨hc2, by omega, hk, by omega, hb2, small_of hb3 hl1, hb4⟩, rfl, rfl, ?_, ho5.le (by omega)⟩
  rfl
end
end G30

set_option Elab.async false
set_option linter.all false
set_option maxRecDepth 100000
set_option maxHeartbeats 1000000
namespace G30
open PySem T
attribute [local irreducible] defF eMt eLc eCall eB lCons gcR
section
variable {S G : Store} {s : Nat}
theorem setSGk {c d : Cell} {k : Nat} : (S.set s c ++ G).set (S.length + k) d = S.set s c ++ G.set k d := by rw [List.set_append_right _ _ (by simp)]; simp
theorem getSGk {c : Cell} {k : Nat} : (S.set s c ++ G)[S.length + k]? = G[k]? := by rw [List.getElem?_append_right (by simp)]; simp
theorem app_k {l : List D} {y : D} {c : Cell} {k : Nat} (h : G[k]? = some (.lst l)) (hl : l.length < lineN) : mAppend (.ref (S.length + k)) [y] (S.set s c ++ G) = .ok .non (S.set s c ++ G.set k (.lst (l ++ [y]))) := by
  unfold mAppend
  dsimp only
  rw [getSGk, h]
  dsimp only
  rw [if_pos hl, setSGk]
theorem gk {G G' : Store} {c : Cell} {k : Nat} (h : G[k]? = some c) : (G ++ G')[k]? = some c := by
  rw [List.getElem?_append_left (List.getElem?_eq_some_iff.mp h).1]; exact h
def OkW (y : D) : Prop := ∃ c : Int, y = .int c ∧ 1000 ≤ c
theorem wides_of : ∀ acc : List D, (∀ y ∈ acc, OkW y) → ∃ cs : List Int, acc = cs.map D.int ∧ ∀ c ∈ cs, 1000 ≤ c
  | [], _ => ⟨[], rfl, fun c hc => by cases hc⟩
  | a :: r, h => by
    obtain ⟨cs, rfl, hx⟩ := wides_of r fun y hy => h y (List.mem_cons_of_mem _ hy)
    obtain ⟨c, rfl, hc⟩ := h a List.mem_cons_self
    exact ⟨c :: cs, rfl, fun z hz => by
      rcases List.mem_cons.mp hz with rfl | hz
      · exact hc
      · exact hx z hz⟩
theorem sum_wide : ∀ {cs : List Int}, (∀ c ∈ cs, 1000 ≤ c) → 1000 * (cs.length : Int) ≤ cs.sum
  | [], _ => by decide
  | c :: r, h => by
    have h1 := h c List.mem_cons_self
    have h2 := sum_wide (cs := r) fun x hx => h x (List.mem_cons_of_mem _ hx)
    rw [List.sum_cons, List.length_cons]; omega
theorem tup_end {X : Store} {l : List D} : fTuple [.ref X.length] (X ++ [.lst l]) = .ok (.tup l) (X ++ [.lst l]) := by
  unfold fTuple
  dsimp only [listD]
  rw [List.getElem?_append_right (Nat.le_refl _)]
  simp [cellL]
theorem wide_ok {σ : Sg} {b : Nat} (hs : S[s]? = some (sgC σ)) (hb : okG b σ) (hb' : b < 100000) :
    goodR (gcR S (d__law_wide_game [.ref s] S)) fun r T => ∃ (σ' : Sg) (cs rk : List Int) (bs : List Blk) (k : Nat) (G : Store), Game cs rk bs ∧ r = .tup [.tup (cs.map D.int), .tup (rk.map D.int), .ref (S.length + k)] ∧ T = S.set s (sgC σ') ++ G ∧ G[k]? = some (.lst (bs.map blkD)) ∧ okG (b + 10000) σ' := by
  refine gcR_good ?_
  have hlt := get_lt hs
  rw [d__law_wide_game, w_def]
  unfold b__law_wide_game
  simp only [w_seq, w_asg, w_b, w_lcons, w_lnil, w_lc, w_irng1', w_c, e_pick, e_take]
  refine ⟨60, rfl, by decide, ?_⟩
  have hS : S = S.set s (sgC σ) ++ [] := by rw [set_self hs, List.append_nil]
  suffices h : goodR (lcL (rngIt 0 ((60 : Nat) : Int)).at_ (tgN 3) tYes (e2 bAdd (e2 bPow (eC (.int 10)) (eC (.int 3))) (eCall 2 (defF 4 bTake) (lCons (eVar 0) (lCons (e2 bPow (eC (.int 10)) (eC (.int 30))) lNil)))) (wipeE [some (.ref s), none, none, none, none, none, none] [3]) (rngIt 0 ((60 : Nat) : Int)).n 0 [] (S.set s (sgC σ) ++ [])) fun l T => ∃ (cs : List Int) (σ' : Sg) (G' : Store), l = cs.map D.int ∧ cs.length = 60 ∧ (∀ c ∈ cs, 1000 ≤ c) ∧ T = S.set s (sgC σ') ++ G' ∧ okG (b + 60) σ' by
    rw [← hS] at h
    refine h.mono fun l T h => ?_
    obtain ⟨cs, σ1, G1, rfl, hcl, hc, rfl, ho1⟩ := h
    rw [tup_end, w_ok]
    refine ⟨_, by simp [tgN]; rfl, ?_⟩
    simp only [w_lst, w_lnil, w_for, w_irng1', w_lcons, w_c]
    refine ⟨by decide, _, by simp [tgN]; rfl, 200, rfl, by decide, ?_⟩
    simp only [List.append_assoc, List.length_append, List.length_set]
    generalize hG1 : G1 ++ ([.lst (cs.map D.int)] ++ [.lst []]) = G2
    have hk2 : G2[G1.length + 1]? = some (.lst (([] : List Blk).map blkD)) := by rw [← hG1]; simp
    generalize G1.length + 1 = k at hk2 ⊢
    refine goodS.mono (w_forL ((T.rI 200).map D.int) (fun i ρ S' => ∃ (σ' : Sg) (bs : List Blk) (G : Store) (a b1 c d : Option D), S' = S.set s (sgC σ') ++ G ∧ G[k]? = some (.lst (bs.map blkD)) ∧ bs.length = i ∧ (∀ b ∈ bs, OkB b) ∧ (∀ b ∈ bs, b.2 ≤ 10) ∧ picksOf bs ≤ 200 * (i : Int) ∧ okG (b + 60 + 30 * i) σ' ∧ ρ = [some (.ref s), some (.tup (cs.map D.int)), some (.ref (S.length + k)), a, b1, c, none]) (fun i ρ S' hi hl => rng_at (n := 200) (by rw [rI_len] at hl; exact hl)) (fun i x ρ S' hx hi => ?_) _ 0 _ _ (by rw [rI_len]; decide) (Nat.zero_le _) ⟨σ1, [], G2, _, _, _, none, rfl, hk2, by simp, by simp, by simp, by simp [picksOf], by simpa using ho1, rfl⟩) (fun ρ S' hi => ?_) (fun _ _ z => z)
    · obtain ⟨rfl, hin⟩ := rI_get hx
      obtain ⟨σ', bs, G, a, b1, c, d, rfl, hG, hbl, hbo, hbt, hpk, ho, rfl⟩ := hi
      refine ⟨_, by simp [tgN]; rfl, ?_⟩
      simp only [w_seq, w_asg, w_e2, w_c, w_call, w_lcons, w_lnil, w_lst, w_var, List.length_set, List.length_append, List.append_assoc]
      refine ⟨_, rfl, _, rfl, by decide, rfl, ?_⟩
      refine (pickA hlt ho (by omega) (by simp) (by simp; decide) rfl).mono fun r T h => ?_
      obtain ⟨hrm, σ2, rfl, ho2⟩ := h
      obtain ⟨v, rfl, hv0, hv1⟩ : ∃ v : Int, r = .int v ∧ 0 < v ∧ v ≤ 20 := by
        simp at hrm
        rcases hrm with rfl | rfl
        · exact ⟨2, rfl, by decide, by decide⟩
        · exact ⟨20, rfl, by decide, by decide⟩
      refine ⟨rfl, ?_⟩
      refine (takeA hlt ho2 (by omega) hv0 (log_lim (by omega) (by omega))).mono fun r T h => ?_
      obtain ⟨q, σ3, rfl, hq0, hq1, rfl, ho3⟩ := h
      obtain ⟨m, rfl⟩ := Int.eq_ofNat_of_zero_le hq0
      obtain ⟨n5, hn5⟩ : ∃ n5 : Nat, (n5 : Int) = 1 + (m : Int) := ⟨m + 1, by omega⟩
      rw [bAdd_int, ← hn5]
      refine ⟨_, by simp [tgN]; rfl, ?_⟩
      have hsg := fun ρ => signs_ok (S := S) (s := s) (G := G ++ [.lst [D.int 2, .int 20]]) (ρ := ρ) (j := 4) (k := 6) (n := n5) (P := fun r T => ∃ (x : List Nat) (σ' : Sg) (G' : Store), r = .str x ∧ T = S.set s (sgC σ') ++ ((G ++ [.lst [D.int 2, .int 20]]) ++ G') ∧ x.length = n5 ∧ (∀ c ∈ x, c = 65 ∨ c = 66) ∧ okG (b + 60 + 30 * i + 1 + 1 + n5) σ') hlt ho3 (by omega) (by omega)
      refine (hsg [some (.ref s), some (.tup (cs.map D.int)), some (.ref (S.length + k)), some (.int (i : Int)), some (.int (n5 : Int)), c, none] rfl rfl (by simp) (by decide) fun x σ4 G4 h1 h2 h3 => ⟨x, σ4, G4, rfl, rfl, h1, h2, h3⟩).mono fun r T h => ?_
      obtain ⟨x, σ4, G4, rfl, rfl, hxl, hxa, ho4⟩ := h
      refine ⟨_, by simp [tgN]; rfl, ?_⟩
      have hG4 := gk (G' := G4) (gk (G' := [.lst [D.int 2, .int 20]]) hG)
      generalize hG5 : G ++ [.lst [D.int 2, .int 20]] ++ G4 = G5 at *
      simp only [w_drop, w_mt, w_lcons, w_lnil, w_tup, w_var, w_e2, w_nil, w_c, w_call]
      refine ⟨_, rfl, mAppend, ?_, _, rfl, _, rfl, rfl, ?_⟩
      · unfold kindD
        dsimp only
        rw [getSGk, hG4]
        exact methF_append
      · refine (takeA hlt ho4 (by omega) (by decide) (by decide +kernel)).mono fun r T h => ?_
        obtain ⟨w, σ5, rfl, hw0, hw1, rfl, ho5⟩ := h
        rw [bAdd_int, w_ok]
        refine ⟨by show 2 ≤ lineN; decide, ?_⟩
        rw [app_k hG4 (by rw [List.length_map]; unfold lineN; omega), w_ok]
        have hok : OkB (x, 1 + w) := ⟨by show 1 ≤ x.length; omega, by show x.length ≤ 20; omega, hxa, by show 1 ≤ 1 + w; omega⟩
        refine ⟨σ5, bs ++ [(x, 1 + w)], G5.set k (.lst (bs.map blkD ++ [.tup [.str x, .int (1 + w)]])), _, _, _, none, rfl, ?_, ?_, ?_, ?_, ?_, ?_, rfl⟩
        · rw [List.getElem?_set_self (List.getElem?_eq_some_iff.mp hG4).1]
          simp [blkD]
        · simp; omega
        · intro z hz
          rcases List.mem_append.mp hz with hz | hz
          · exact hbo z hz
          · cases List.mem_singleton.mp hz
            exact hok
        · intro z hz
          rcases List.mem_append.mp hz with hz | hz
          · exact hbt z hz
          · cases List.mem_singleton.mp hz
            show 1 + w ≤ 10; omega
        · rw [picks_snoc]
          show picksOf bs + (x.length : Int) * (1 + w) ≤ _
          have h1 : (x.length : Int) * (1 + w) ≤ 20 * 10 := Int.mul_le_mul (by omega) (by omega) (by omega) (by omega)
          omega
        · exact ho5.le (by omega)
    · obtain ⟨σ', bs, G, a, b1, c, d, rfl, hG, hbl, hbo, hbt, hpk, ho, rfl⟩ := hi
      rw [rI_len] at hbl hpk ho
      simp only [w_seq, w_ret, w_tup, w_lcons, w_lnil, w_var, w_call, w_c]
      refine ⟨_, rfl, _, rfl, rfl, ?_⟩
      refine (rankA (n := 60) hlt ho (by omega) (by omega)).mono fun r T h => ?_
      obtain ⟨σ5, rk, hk, rfl, rfl, ho5⟩ := h
      refine ⟨_, rfl, by show 3 ≤ lineN; decide, ?_⟩
      have hsw := sum_wide hc
      rw [← hcl] at hk
      exact ⟨_, _, gc_tr, σ5, cs, rk, bs, _, _, ⟨fun c h => by have := hc c h; omega, by omega, hk, by omega, hbo, small_of hbt (by decide), by omega⟩, rfl, rfl, hG, ho5.le (by omega)⟩
  refine w_lcdraw OkW 1 (by unfold lineN; omega) hb (fun i σ' G' hi ho => ?_) fun acc σ' G' hl hp ho => ?_
  · refine ⟨_, by simp [wipeE, tgN]; rfl, ?_⟩
    simp only [w_e2, w_c, w_call, w_lcons, w_lnil, w_var]
    rw [bPow_int (by decide), w_ok]
    refine ⟨_, rfl, ?_⟩
    rw [bPow_int (by decide), w_ok]
    refine ⟨rfl, ?_⟩
    refine (takeA hlt ho (by omega) (by decide) (by decide +kernel)).mono fun r T h => ?_
    obtain ⟨v, σ1, rfl, hv0, hv1, rfl, ho1⟩ := h
    rw [bAdd_int, w_ok]
    exact ⟨⟨_, rfl, by show 1000 ≤ (1000 : Int) + v; omega⟩, σ1, _, rfl, ho1⟩
  · obtain ⟨cs, rfl, hc⟩ := wides_of acc hp
    rw [List.length_map] at hl
    exact ⟨cs, σ', _, rfl, hl, hc, rfl, ho.le (by omega)⟩
end
end G30

set_option Elab.async false
set_option linter.all false
set_option maxRecDepth 100000
set_option maxHeartbeats 1000000
namespace G30
open PySem T
attribute [local irreducible] defF eMt eLc eCall eB lCons gcR
theorem leAll_refl : ∀ l : List Int, leAll l l = true
  | [] => rfl
  | a :: r => by
    have := leAll_refl r
    unfold leAll at this ⊢
    simp only [List.zip_cons_cons, List.all_cons, this, Bool.and_true, decide_eq_true_eq]
    omega
theorem leAll_snoc {a b : List Int} {x y : Int} (hl : a.length = b.length) (h : leAll a b = true) (hxy : x ≤ y) : leAll (a ++ [x]) (b ++ [y]) = true := by
  unfold leAll at h ⊢
  rw [List.zip_append hl, List.all_append, h]
  simpa using hxy
theorem leAll_over {f due : List Int} {k : Nat} {y v : Int} (hl : f.length = due.length) (hk : due[k]? = some y) (hv : 0 < v) : leAll (f.take k ++ [y + v] ++ f.drop (k + 1)) due = false := by
  have hk' := (List.getElem?_eq_some_iff.mp hk).1
  unfold leAll
  rw [List.all_eq_false]
  refine ⟨(y + v, y), ?_, by simp; omega⟩
  refine List.mem_of_getElem? (i := k) ?_
  rw [List.getElem?_zip_eq_some]
  refine ⟨?_, hk⟩
  rw [List.getElem?_append_left (by simp; omega), List.getElem?_append_right (by simp; omega)]
  simp
  rw [show k - min k f.length = 0 by omega]
  rfl
section
variable {S G : Store} {s : Nat}
theorem cutX {c : Cell} {l : List D} {k : Nat} {lo hi : Option Int} (h : G[k]? = some (.lst l)) : bCut (.ref (S.length + k)) lo hi (S.set s c ++ G) = .ok (.ref (S.length + G.length)) (S.set s c ++ (G ++ [.lst (cutD l lo hi)])) := by
  unfold bCut
  dsimp only
  rw [getSGk, h]
  simp [cellL]
theorem addX {c : Cell} {a b : List D} {i j : Nat} (h1 : G[i]? = some (.lst a)) (h2 : G[j]? = some (.lst b)) (hl : a.length + b.length ≤ lineN) : bAdd (.ref (S.length + i)) (.ref (S.length + j)) (S.set s c ++ G) = .ok (.ref (S.length + G.length)) (S.set s c ++ (G ++ [.lst (a ++ b)])) := by
  unfold bAdd
  dsimp only
  rw [getSGk, getSGk, h1, h2]
  simp [cellL, hl]
theorem gEnd {c : Cell} : (G ++ [c])[G.length]? = some c := by rw [List.getElem?_append_right (Nat.le_refl _)]; simp
theorem side_of {cs rk : List Int} {bs : List Blk} {d : D} {p : Nat} {σ : Sg} (g : Game cs rk bs) (hd : listD d S = some (bs.map blkD)) (hs : d ≠ .ref s) (hp : p = 65 ∨ p = 66) : Side cs rk d bs p (S.set s (sgC σ) ++ G) :=
  ⟨g.cpos, g.cfew, g.rk, listD_app (listD_set hd hs), g.bfew, g.bok, hp⟩
theorem wanted_ok {cs rk : List Int} {bs : List Blk} {d : D} {p : Nat} {σ : Sg} {b : Nat} (g : Game cs rk bs) (hd : listD d S = some (bs.map blkD)) (hds : d ≠ .ref s) (hp : p = 65 ∨ p = 66) (hs : S[s]? = some (sgC σ)) (hb : okG b σ) (hb' : b < 100000) :
    goodR (gcR S (d__law_wanted_right [.ref s, .tup (cs.map D.int), .tup (rk.map D.int), d, .str [p]] S)) fun r T => r = .bl true ∧ ∃ σ', T = S.set s (sgC σ') ∧ okG (b + 1000) σ' := by
  refine gcR_good ?_
  have hlt := get_lt hs
  have hsl : (sures cs rk bs p).length = cs.length := by rw [sures_len]; exact g.rk.len
  have hcf := g.cfew
  have hS : S = S.set s (sgC σ) ++ [] := by rw [set_self hs, List.append_nil]
  have hsd : Side cs rk d bs p S := ⟨g.cpos, g.cfew, g.rk, hd, g.bfew, g.bok, hp⟩
  have hsu := law_sure hsd g.small
  have his : ∀ (σ' : Sg) (G : Store) (w : D) (ws : List Int), listD w (S.set s (sgC σ') ++ G) = some (ws.map D.int) → ws.length = cs.length → gcR (S.set s (sgC σ') ++ G) (d_is_sure [.tup (cs.map D.int), .tup (rk.map D.int), d, .str [p], w] (S.set s (sgC σ') ++ G)) = .ok (.bl (leAll ws (sures cs rk bs p))) (S.set s (sgC σ') ++ G) :=
    fun σ' G w ws h1 h2 => is_sure (side_of g hd hds hp) g.small g.fits h1 h2
  generalize sures cs rk bs p = due at hsl hsu his
  rw [d__law_wanted_right, w_def]
  unfold b__law_wanted_right
  simp only [w_seq, w_asg, w_lcons, w_lnil, w_lc, w_iseq, w_var, w_call, w_c, e_pick]
  refine ⟨_, rfl, _, rfl, _, rfl, _, rfl, rfl, ?_⟩
  rw [hsu, w_ok]
  refine ⟨_, by simp [tgN]; rfl, _, rfl, ?_⟩
  have hS1 : S ++ [.lst (due.map D.int)] = S.set s (sgC σ) ++ [.lst (due.map D.int)] := by rw [set_self hs]
  rw [hS1]
  obtain ⟨J, hJ, hJn, hat⟩ := listD_seq (d := .ref S.length) (S := S.set s (sgC σ) ++ [.lst (due.map D.int)]) (l := due.map D.int) (by show cellL _ = _; rw [getS0]; rfl)
  refine ⟨J, hJ, ?_⟩
  rw [hJn]
  refine w_lcL (due.map D.int) (fun i acc S' => ∃ (σ' : Sg) (G : Store) (fs : List Int), S' = S.set s (sgC σ') ++ G ∧ G[0]? = some (.lst (due.map D.int)) ∧ acc = fs.map D.int ∧ fs.length = i ∧ leAll fs (due.take i) = true ∧ okG (b + i) σ') (fun i acc S' h hi => ?_) (by rw [List.length_map]; unfold lineN; omega) (fun i acc S' h => ?_) (fun i x acc S' hx h => ?_) (fun acc S' h => ?_) _ 0 [] _ (by omega) (Nat.zero_le _) ⟨σ, _, [], rfl, rfl, rfl, rfl, rfl, hb⟩
  · obtain ⟨σ', G, fs, rfl, hG, _⟩ := h
    exact hat _ (by show cellL _ = _; rw [getS0, hG]; rfl) i
  · obtain ⟨σ', G, fs, rfl, hG, rfl, hl, _⟩ := h
    simp; omega
  · obtain ⟨σ', G, fs, rfl, hG, rfl, hl, hle, ho⟩ := h
    rw [List.getElem?_map] at hx
    obtain ⟨y, hy, rfl⟩ := Option.map_eq_some_iff.mp hx
    have hil := (List.getElem?_eq_some_iff.mp hy).1
    refine ⟨_, by simp [wipeE, tgN]; rfl, ?_⟩
    simp only [w_tyes, if_true, w_e2, w_c, w_call, w_lcons, w_lnil, w_var, w_lst, List.length_append, List.length_set, List.append_assoc]
    refine ⟨_, rfl, _, rfl, ?_⟩
    rw [bPow_int (by decide), w_ok]
    refine ⟨by show 4 ≤ lineN; decide, rfl, ?_⟩
    simp only [List.append_assoc, List.length_append, List.length_set]
    refine (pickA hlt ho (by omega) (by simp) (by show 4 ≤ lineN; decide) rfl).mono fun r T h => ?_
    obtain ⟨hr, σ1, rfl, ho1⟩ := h
    obtain ⟨v, rfl, hv0⟩ : ∃ v : Int, r = .int v ∧ 0 ≤ v := by
      simp at hr
      rcases hr with rfl | rfl | rfl
      · exact ⟨_, rfl, by decide⟩
      · exact ⟨_, rfl, by decide⟩
      · exact ⟨_, rfl, by decide⟩
    rw [bSub_int, w_ok]
    refine ⟨σ1, _, fs ++ [y - v], rfl, gk hG, by simp, by simp; omega, ?_, ho1.le (by omega)⟩
    rw [List.take_succ_eq_append_getElem hil]
    refine leAll_snoc (by simp; omega) hle ?_
    rw [(List.getElem?_eq_some_iff.mp hy).2]; omega
  · obtain ⟨σ1, G, fs, rfl, hG, rfl, hl, hle, ho⟩ := h
    rw [List.length_map] at hl hle ho
    rw [List.take_length] at hle
    refine ⟨_, by simp [tgN]; rfl, ?_⟩
    simp only [w_for, w_iseq, w_lst, w_lcons, w_lnil, w_var, w_b, List.length_append, List.length_set, List.append_assoc]
    have hX0 : G[0]? = some (.lst (due.map D.int)) := hG
    have hX6 : (G ++ [.lst (fs.map D.int)])[G.length]? = some (.lst (fs.map D.int)) := gEnd
    have hXd := gk (G' := [.lst (fs.map D.int)]) hG
    generalize hk6 : G.length = k6 at *
    generalize hX : G ++ [.lst (fs.map D.int)] = X at *
    have t1 : fTuple [.ref S.length] (S.set s (sgC σ1) ++ X) = .ok (.tup (due.map D.int)) (S.set s (sgC σ1) ++ X) := by
      unfold fTuple
      dsimp only [listD]
      rw [getS0, hXd]; rfl
    have t2 : fTuple [.ref (S.length + k6)] (S.set s (sgC σ1) ++ X) = .ok (.tup (fs.map D.int)) (S.set s (sgC σ1) ++ X) := by
      unfold fTuple
      dsimp only [listD]
      rw [getSGk, hX6]; rfl
    refine ⟨_, rfl, _, rfl, _, rfl, ?_⟩
    rw [t1, w_ok]
    refine ⟨_, rfl, ?_⟩
    rw [t2, w_ok]
    simp only [List.length_append, List.length_set, List.append_assoc]
    have hY := gEnd (G := X) (c := .lst [.ref S.length, .ref (S.length + k6), .tup (due.map D.int), .tup (fs.map D.int)])
    have hYd := gk (G' := [.lst [.ref S.length, .ref (S.length + k6), .tup (due.map D.int), .tup (fs.map D.int)]]) hXd
    have hY6 := gk (G' := [.lst [.ref S.length, .ref (S.length + k6), .tup (due.map D.int), .tup (fs.map D.int)]]) hX6
    generalize X.length = k4 at *
    generalize X ++ [.lst [.ref S.length, .ref (S.length + k6), .tup (due.map D.int), .tup (fs.map D.int)]] = Y at *
    obtain ⟨J, hJ, hJn, hat⟩ := listD_seq (d := .ref (S.length + k4)) (S := S.set s (sgC σ1) ++ Y) (l := [.ref S.length, .ref (S.length + k6), .tup (due.map D.int), .tup (fs.map D.int)]) (by show cellL _ = _; rw [getSGk, hY]; rfl)
    refine ⟨by show 4 ≤ lineN; decide, J, hJ, ?_⟩
    rw [hJn]
    have hd0 : ∀ (σ' : Sg) (Y : Store), Y[0]? = some (.lst (due.map D.int)) → listD (.ref S.length) (S.set s (sgC σ') ++ Y) = some (due.map D.int) := fun σ' Y h => by show cellL _ = _; rw [getS0, h]; rfl
    have hd6 : ∀ (σ' : Sg) (Y : Store) (k : Nat) (l : List D), Y[k]? = some (.lst l) → listD (.ref (S.length + k)) (S.set s (sgC σ') ++ Y) = some l := fun σ' Y k l h => by show cellL _ = _; rw [getSGk, h]; rfl
    refine goodS.mono (w_forL [.ref S.length, .ref (S.length + k6), .tup (due.map D.int), .tup (fs.map D.int)] (fun i ρ S' => S' = S.set s (sgC σ1) ++ Y ∧ ∃ a : Option D, ρ = [some (.ref s), some (.tup (cs.map D.int)), some (.tup (rk.map D.int)), some d, some (.str [p]), some (.ref S.length), some (.ref (S.length + k6)), a, none, none, none]) (fun i ρ S' hi hl => ?_) (fun i x ρ S' hx hi => ?_) _ 0 _ _ (by simp) (Nat.zero_le _) ⟨rfl, _, rfl⟩) (fun ρ S' hi => ?_) (fun _ _ z => z)
    · obtain ⟨rfl, _⟩ := hi
      exact hat _ (hd6 _ _ _ _ hY) i
    · obtain ⟨rfl, a, rfl⟩ := hi
      obtain ⟨ws, hw1, hw2, hw3⟩ : ∃ ws : List Int, listD x (S.set s (sgC σ1) ++ Y) = some (ws.map D.int) ∧ ws.length = cs.length ∧ leAll ws due = true := by
        have hm := List.mem_of_getElem? hx
        rcases List.mem_cons.mp hm with rfl | hm
        · exact ⟨due, hd0 _ _ hYd, hsl, leAll_refl due⟩
        rcases List.mem_cons.mp hm with rfl | hm
        · exact ⟨fs, hd6 _ _ _ _ hY6, by omega, hle⟩
        rcases List.mem_cons.mp hm with rfl | hm
        · exact ⟨due, rfl, hsl, leAll_refl due⟩
        cases List.mem_singleton.mp hm
        exact ⟨fs, rfl, by omega, hle⟩
      refine ⟨_, by simp [tgN]; rfl, ?_⟩
      simp only [w_seq, w_if, w_tb, w_e2, w_call, w_lcons, w_lnil, w_var, w_c, w_nil]
      refine ⟨_, rfl, _, rfl, _, rfl, _, rfl, _, rfl, rfl, ?_⟩
      rw [his σ1 Y x ws hw1 hw2, w_ok, hw3]
      exact ⟨false, rfl, rfl, _, rfl⟩
    · obtain ⟨rfl, a, rfl⟩ := hi
      simp only [w_seq, w_for, w_irng1', w_b, w_lcons, w_lnil, w_var]
      refine ⟨_, rfl, ?_⟩
      have hfl := listD_len (hd0 σ1 Y hYd)
      rw [List.length_map] at hfl
      rw [hfl, w_ok]
      refine ⟨_, rfl, by unfold okR; simp; omega, ?_⟩
      refine goodS.mono (w_forL ((T.rI due.length).map D.int) (fun i ρ S' => ∃ (σ' : Sg) (Y : Store) (a b1 c : Option D), S' = S.set s (sgC σ') ++ Y ∧ Y[0]? = some (.lst (due.map D.int)) ∧ Y[k6]? = some (.lst (fs.map D.int)) ∧ okG (b + due.length + i) σ' ∧ ρ = [some (.ref s), some (.tup (cs.map D.int)), some (.tup (rk.map D.int)), some d, some (.str [p]), some (.ref S.length), some (.ref (S.length + k6)), a, b1, c, none]) (fun i ρ S' hi hl => rng_at (by rw [rI_len] at hl; exact hl)) (fun i x ρ S' hx hi => ?_) _ 0 _ _ (by rw [rI_len, rng_n]; omega) (Nat.zero_le _) ⟨σ1, Y, _, _, _, rfl, hYd, hY6, ho.le (by omega), rfl⟩) (fun ρ S' hi => ?_) (fun _ _ z => z)
      · obtain ⟨rfl, hin⟩ := rI_get hx
        clear hat hJ hJn J hY hYd hY6 hXd hX0 hX6 hX t1 t2 hk6 hfl
        obtain ⟨σ', Z, a, b1, c, rfl, hZ0, hZ6, ho', rfl⟩ := hi
        refine ⟨_, by simp [tgN]; rfl, ?_⟩
        obtain ⟨y, hy⟩ : ∃ y, due[i]? = some y := ⟨due[i], List.getElem?_eq_getElem hin⟩
        simp only [w_seq, w_asg, w_e2, w_cut, w_onone, w_osome, w_var, w_lst, w_lcons, w_lnil, w_call, w_c, w_if, w_tb, w_nil]
        refine ⟨_, rfl, _, rfl, _, rfl, ?_⟩
        rw [cutX hZ6, w_ok, cut_take (by omega)]
        try simp only [List.length_append, List.length_set, List.append_assoc]
        have c1 := gEnd (G := Z) (c := .lst ((fs.map D.int).take (i : Int).toNat))
        have d0 := gk (G' := [.lst ((fs.map D.int).take (i : Int).toNat)]) hZ0
        have d6 := gk (G' := [.lst ((fs.map D.int).take (i : Int).toNat)]) hZ6
        generalize Z.length = n1 at *
        generalize Z ++ [.lst ((fs.map D.int).take (i : Int).toNat)] = Z1 at *
        clear hZ0 hZ6
        refine ⟨_, rfl, _, rfl, ?_⟩
        have hix : bIx (.ref S.length) (.int (i : Int)) (S.set s (sgC σ') ++ Z1) = .ok (.int y) (S.set s (sgC σ') ++ Z1) := by
          rw [ix_row (hd0 _ _ d0)]
          obtain ⟨z, e1, e2⟩ := atI_get (l := due.map D.int) (i := (i : Int)) (by omega) (by simpa using hin)
          rw [e1]
          have e3 : (due.map D.int)[i]? = some (.int y) := by rw [List.getElem?_map, hy]; rfl
          rw [Int.toNat_natCast, e3] at e2
          cases e2; rfl
        rw [hix, w_ok]
        refine ⟨_, rfl, by show 3 ≤ lineN; decide, rfl, ?_⟩
        simp only [List.length_append, List.length_set, List.append_assoc]
        refine (pickA hlt ho' (by omega) (by simp) (by show 3 ≤ lineN; decide) rfl).mono fun r T h => ?_
        obtain ⟨hr, σ2, rfl, ho2⟩ := h
        obtain ⟨v, rfl, hv0⟩ : ∃ v : Int, r = .int v ∧ 0 < v := by
          simp at hr
          rcases hr with rfl | rfl
          · exact ⟨_, rfl, by decide⟩
          · exact ⟨_, rfl, by decide⟩
        rw [bAdd_int, w_ok]
        refine ⟨by show 1 ≤ lineN; decide, ?_⟩
        have c1 := gk (G' := [.lst [D.int 1, .int 1, .int 9]]) c1
        have d0 := gk (G' := [.lst [D.int 1, .int 1, .int 9]]) d0
        have d6 := gk (G' := [.lst [D.int 1, .int 1, .int 9]]) d6
        generalize hZ2 : Z1 ++ [.lst [D.int 1, .int 1, .int 9]] = Z2 at *
        have c2 := gEnd (G := Z2) (c := .lst [.int (y + v)])
        have c1 := gk (G' := [.lst [.int (y + v)]]) c1
        have d0 := gk (G' := [.lst [.int (y + v)]]) d0
        have d6 := gk (G' := [.lst [.int (y + v)]]) d6
        simp only [List.length_append, List.length_set, List.append_assoc]
        generalize Z2.length = n2 at *
        generalize Z2 ++ [.lst [.int (y + v)]] = Z3 at *
        rw [addX c1 c2 (by rw [List.length_take, List.length_map]; simp; unfold lineN; omega), w_ok]
        generalize hl1 : (fs.map D.int).take (i : Int).toNat ++ [.int (y + v)] = l1 at *
        have c3 := gEnd (G := Z3) (c := .lst l1)
        have d0 := gk (G' := [.lst l1]) d0
        have d6 := gk (G' := [.lst l1]) d6
        generalize Z3.length = n3 at *
        generalize Z3 ++ [.lst l1] = Z4 at *
        refine ⟨_, rfl, _, rfl, ?_⟩
        rw [bAdd_int, w_ok]
        refine ⟨_, rfl, ?_⟩
        rw [cutX d6, w_ok, cut_drop (by omega)]
        generalize hl2 : (fs.map D.int).drop ((i : Int) + 1).toNat = l2 at *
        have c4 := gEnd (G := Z4) (c := .lst l2)
        have c3 := gk (G' := [.lst l2]) c3
        have d0 := gk (G' := [.lst l2]) d0
        have d6 := gk (G' := [.lst l2]) d6
        generalize Z4.length = n4 at *
        generalize Z4 ++ [.lst l2] = Z5 at *
        rw [addX c3 c4 (by rw [← hl1, ← hl2]; simp; unfold lineN; omega), w_ok]
        have el : l1 ++ l2 = (fs.take i ++ [y + v] ++ fs.drop (i + 1)).map D.int := by
          rw [← hl1, ← hl2, show ((i : Int) + 1).toNat = i + 1 by omega, Int.toNat_natCast]
          simp
        rw [el]
        have c5 := gEnd (G := Z5) (c := .lst ((fs.take i ++ [y + v] ++ fs.drop (i + 1)).map D.int))
        have d0 := gk (G' := [.lst ((fs.take i ++ [y + v] ++ fs.drop (i + 1)).map D.int)]) d0
        have d6 := gk (G' := [.lst ((fs.take i ++ [y + v] ++ fs.drop (i + 1)).map D.int)]) d6
        generalize Z5.length = n5 at *
        generalize Z5 ++ [.lst ((fs.take i ++ [y + v] ++ fs.drop (i + 1)).map D.int)] = Z6 at *
        refine ⟨_, by simp [tgN]; rfl, ?_⟩
        refine ⟨_, rfl, _, rfl, _, rfl, _, rfl, _, rfl, rfl, ?_⟩
        rw [his σ2 Z6 _ _ (hd6 _ _ _ _ c5) (by simp; omega), w_ok, leAll_over hl hy hv0]
        exact ⟨false, rfl, σ2, Z6, _, _, _, rfl, d0, d6, ho2.le (by omega), rfl⟩
      · obtain ⟨σ', Z, a, b1, c, rfl, hZ0, hZ6, ho', rfl⟩ := hi
        rw [rI_len] at ho'
        simp only [w_seq, w_ret, w_c]
        exact ⟨_, _, gc_setA (sgC_flat _) rfl, rfl, σ', rfl, ho'.le (by omega)⟩
end
end G30

set_option Elab.async false
set_option linter.all false
set_option maxRecDepth 100000
set_option maxHeartbeats 1000000
namespace G30
open PySem T
attribute [local irreducible] defF eMt eLc eCall eB lCons gcR
section
variable {S G : Store} {s : Nat}
theorem gEnd2 {X : Store} {c : Cell} : (X ++ [c])[X.length]? = some c := by rw [List.getElem?_append_right (Nat.le_refl _)]; simp
theorem getP {k : Nat} : (S ++ G)[S.length + k]? = G[k]? := by rw [List.getElem?_append_right (by omega)]; congr 1; omega
theorem app_p {l : List D} {y : D} {k : Nat} (h : G[k]? = some (.lst l)) (hl : l.length < lineN) : mAppend (.ref (S.length + k)) [y] (S ++ G) = .ok .non (S ++ G.set k (.lst (l ++ [y]))) := by
  unfold mAppend
  dsimp only
  rw [getP, h]
  dsimp only
  rw [if_pos hl, List.set_append_right _ _ (by omega), Nat.add_sub_cancel_left]
theorem ne_same {l : List Int} (h : G[0]? = some (.lst (l.map D.int))) : bNe (.ref (S.length + G.length)) (.ref S.length) (S ++ (G ++ [.lst (l.map D.int)])) = .ok (.bl false) (S ++ (G ++ [.lst (l.map D.int)])) := by
  have h2 : cellL (S ++ (G ++ [.lst (l.map D.int)]))[S.length]? = some (l.map D.int) := by
    have := getP (S := S) (G := G ++ [.lst (l.map D.int)]) (k := 0)
    rw [Nat.add_zero] at this
    rw [this, gk h]; rfl
  have h1 : cellL (S ++ (G ++ [.lst (l.map D.int)]))[S.length + G.length]? = some (l.map D.int) := by rw [getP, gEnd]; rfl
  rw [bNe_lists h1 h2]
  simp
theorem right_ok {cs rk : List Int} {bs : List Blk} {d : D} {p : Nat} {σ : Sg} {b : Nat} (g : Game cs rk bs) (hd : listD d S = some (bs.map blkD)) (hds : d ≠ .ref s) (hp : p = 65 ∨ p = 66) (hs : S[s]? = some (sgC σ)) (hb : okG b σ) (hb' : b < 100000) :
    goodR (gcR S (d__law_right [.ref s, .tup (cs.map D.int), .tup (rk.map D.int), d, .str [p]] S)) fun r T => r = .bl true ∧ ∃ σ', T = S.set s (sgC σ') ∧ okG (b + 1000) σ' := by
  refine gcR_good ?_
  have hlt := get_lt hs
  have hsd : ∀ G, Side cs rk d bs p (S ++ G) := fun G => ⟨g.cpos, g.cfew, g.rk, listD_app hd, g.bfew, g.bok, hp⟩
  have hst : ∀ X : Store, Side cs rk (.tup (bs.map blkD)) bs p X := fun X => ⟨g.cpos, g.cfew, g.rk, rfl, g.bfew, g.bok, hp⟩
  have hsd0 : Side cs rk d bs p S := ⟨g.cpos, g.cfew, g.rk, hd, g.bfew, g.bok, hp⟩
  have hsl : (sures cs rk bs p).length = cs.length := by rw [sures_len]; exact g.rk.len
  have hcf := g.cfew
  have hsu := law_sure hsd0 g.small
  have hsc := fun G => sure_counts (hsd G) g.small g.fits
  have hsc2 := fun X => sure_counts (hst X) g.small g.fits
  have hbu := fun G => bundle_ok (hsd G) g.small g.fits
  have hrl := g.rk.len
  rw [d__law_right, w_def]
  unfold b__law_right
  simp only [w_seq, w_asg, w_lcons, w_lnil, w_var, w_call, w_c, w_if, w_tor, w_tb, w_e2, w_tnot, w_tv, w_isi, w_drop, w_mt, w_nil]
  refine ⟨_, rfl, _, rfl, _, rfl, _, rfl, rfl, ?_⟩
  rw [hsu, w_ok]
  refine ⟨_, by simp [tgN]; rfl, ?_⟩
  refine ⟨_, rfl, _, rfl, _, rfl, _, rfl, rfl, ?_⟩
  rw [hsc, w_ok]
  refine ⟨_, by simp [tgN]; rfl, ?_⟩
  simp only [List.length_append, List.append_assoc]
  generalize hdue : sures cs rk bs p = due at *
  have e1 : bNe (.ref (S.length + 1)) (.ref S.length) (S ++ ([.lst (due.map D.int)] ++ [.lst (due.map D.int)])) = .ok (.bl false) _ := ne_same (S := S) (G := [.lst (due.map D.int)]) (l := due) rfl
  have hty : ∀ {G : Store} {k : Nat} {l : List D}, G[k]? = some (.lst l) → tyD (.ref (S.length + k)) (S ++ G) = some "list" := fun {G k l} h => by
    show (cellL (S ++ G)[S.length + k]?).map _ = _
    rw [getP, h]; rfl
  have hty1 : tyD (.ref (S.length + 1)) _ = _ := hty (gEnd (G := [.lst (due.map D.int)]) (c := .lst (due.map D.int)))
  have hg0 : ([.lst (due.map D.int)] ++ [.lst (due.map D.int)] : Store)[0]? = some (.lst (due.map D.int)) := rfl
  have hg1 : ([.lst (due.map D.int)] ++ [.lst (due.map D.int)] : Store)[1]? = some (.lst (due.map D.int)) := rfl
  generalize ([.lst (due.map D.int)] ++ [.lst (due.map D.int)] : Store) = G1 at *
  refine ⟨_, rfl, _, rfl, ?_⟩
  rw [e1, w_ok]
  refine ⟨_, rfl, ?_⟩
  rw [if_neg (by simp)]
  refine ⟨_, rfl, _, hty1, _, rfl, ?_⟩
  rw [if_neg (by decide)]
  refine ⟨_, rfl, mAppend, ?_, ?_⟩
  · unfold kindD
    dsimp only
    rw [getP, hg1]
    exact methF_append
  rw [app_p hg1 (by rw [List.length_map]; unfold lineN; omega), w_ok]
  have hg2 : (G1.set 1 (.lst (due.map D.int ++ [.non])))[0]? = some (.lst (due.map D.int)) := by rw [List.getElem?_set_ne (by decide)]; exact hg0
  generalize G1.set 1 (.lst (due.map D.int ++ [.non])) = G2 at *
  have htp : fTuple [d] (S ++ G2) = .ok (.tup (bs.map blkD)) (S ++ G2) := by
    unfold fTuple
    dsimp only
    rw [listD_app hd]
  refine ⟨_, rfl, _, rfl, ?_⟩
  simp only [w_b, w_lcons, w_lnil, w_var]
  refine ⟨_, rfl, ?_⟩
  rw [htp, w_ok]
  refine ⟨_, rfl, rfl, ?_⟩
  rw [hsc2, w_ok]
  refine ⟨_, rfl, ?_⟩
  rw [List.append_assoc, List.length_append, ne_same hg2, w_ok]
  refine ⟨_, rfl, ?_⟩
  rw [if_neg (by simp)]
  have hg3 := gk (G' := [.lst (due.map D.int)]) hg2
  generalize G2 ++ [.lst (due.map D.int)] = G3 at *
  obtain ⟨fs, f1, f2, f3⟩ := hbu G3
  refine ⟨_, rfl, _, rfl, _, rfl, _, rfl, rfl, ?_⟩
  rw [f3, w_ok]
  refine ⟨_, by simp [tgN]; rfl, ?_⟩
  refine ⟨_, rfl, "tuple", rfl, _, rfl, ?_⟩
  rw [if_neg (by decide)]
  refine ⟨_, rfl, _, rfl, rfl, ?_⟩
  have hps : psums fs 0 rk = due := psums_tele rk due 0 (by omega) fun j k hk => by
    rw [f2 j k hk]; rfl
  rw [sums_ok (fun k hk => by rw [f1]; exact g.rk.mem k hk) (by omega), hps, w_ok]
  refine ⟨_, rfl, ?_⟩
  rw [List.append_assoc, List.length_append, ne_same hg3, w_ok]
  refine ⟨_, rfl, ?_⟩
  rw [if_neg (by simp)]
  generalize G3 ++ [.lst (due.map D.int)] = G4 at *
  simp only [w_ret, w_call, w_lcons, w_lnil, w_var]
  refine ⟨_, rfl, _, rfl, _, rfl, _, rfl, _, rfl, rfl, ?_⟩
  refine (wanted_ok (S := S ++ G4) g (listD_app hd) hds hp (by rw [get_app hlt]; exact hs) hb hb').mono fun r T h => ?_
  obtain ⟨rfl, σ', rfl, ho⟩ := h
  rw [set_app hlt]
  exact ⟨_, _, gc_setA (sgC_flat _) rfl, rfl, σ', rfl, ho⟩
end
end G30

set_option Elab.async false
set_option linter.all false
set_option maxRecDepth 100000
set_option maxHeartbeats 1000000
namespace G30
open PySem T
attribute [local irreducible] defF eMt eLc eCall eB lCons gcR
section
variable {S G : Store} {s : Nat}
theorem keepI {i : Nat} {c c' : Cell} (h : i < S.length) : ((S ++ [c]).set S.length c' ++ G)[i]? = S[i]? := by
  rw [get_app (by simp; omega), List.getElem?_set_ne (by omega), get_app h]
theorem cell_ok {ns : List Int} (h : S[0]? = some (.fz (ns.map D.int))) : gcR S (d__law_cell_at [.ref 0, .int 0] S) = .ok (.int (ns.getD 0 0)) S := by
  apply gcR_eq
  have hl : listD (.ref 0) S = some (ns.map D.int) := by show cellL S[0]? = _; rw [h]; rfl
  have hlen := listD_len hl
  rw [List.length_map] at hlen
  rw [d__law_cell_at, w_def]
  unfold b__law_cell_at
  simp only [w_seq, w_if, w_tb, w_e2, w_var, w_c, w_b, w_lcons, w_lnil, w_nil, w_ret]
  refine ⟨_, rfl, _, rfl, ?_⟩
  rw [hlen, w_ok, bLt_int, w_ok]
  refine ⟨_, rfl, ?_⟩
  cases ns with
  | nil => exact gc_int
  | cons a r =>
    rw [if_pos (by simp)]
    refine ⟨_, rfl, _, rfl, ?_⟩
    rw [ix_row hl]
    obtain ⟨z, e1, e2⟩ := atI_get (l := (a :: r).map D.int) (i := 0) (by omega) (by simp)
    rw [e1]
    simp at e2
    subst e2
    exact gc_int
def items (ns : List Int) : List Int := ns.getD 0 0 :: ((ns.drop 1).take 5)
theorem cut16 (ns : List Int) : cutD (ns.map D.int) (some 1) (some 6) = ((ns.drop 1).take 5).map D.int := by
  unfold cutD
  have e1 : HT.sIx (ns.map D.int).length (ns.map D.int).length (some ((6 : Nat) : Int)) = min 6 (ns.map D.int).length := HT.sIx_nat _ _ 6
  have e2 : HT.sIx (ns.map D.int).length 0 (some ((1 : Nat) : Int)) = min 1 (ns.map D.int).length := HT.sIx_nat _ _ 1
  rw [show (6 : Int) = ((6 : Nat) : Int) from rfl, show (1 : Int) = ((1 : Nat) : Int) from rfl, e1, e2]
  rw [List.length_map]
  cases ns with
  | nil => rfl
  | cons a r =>
    rw [show min 1 (a :: r).length = 1 by simp]
    rw [← List.map_drop, ← List.map_take]
    congr 1
    rw [List.take_eq_take_iff]
    simp
    omega
theorem get0_mem {ns : List Int} {P : Int → Prop} (h0 : P 0) (h : ∀ z ∈ ns, P z) : P (ns.getD 0 0) := by
  cases ns with
  | nil => exact h0
  | cons a r => exact h a List.mem_cons_self
theorem items_mem {ns : List Int} {P : Int → Prop} (h0 : P 0) (h : ∀ z ∈ ns, P z) : ∀ z ∈ items ns, P z := by
  intro z hz
  rcases List.mem_cons.mp hz with rfl | hz
  · exact get0_mem h0 h
  · exact h z (List.mem_of_mem_drop (List.mem_of_mem_take hz))
theorem law_ok {ns : List Int} (hlen : ns.length ≤ 63) (hz : ∀ z ∈ ns, z.natAbs.log2 < 100000000) : goodR (d_law [.ref 0] [.fz (ns.map D.int)]) fun r _ => r = .bl true := by
  have hz0 : (0 : Int).natAbs.log2 < 100000000 := by decide
  have hil := items_mem (P := fun z => z.natAbs.log2 < 100000000) hz0 hz
  have hc0 := get0_mem (P := fun z => z.natAbs.log2 < 100000000) hz0 hz
  rw [d_law, w_def]
  unfold b_law
  simp only [w_seq, w_for, w_iseq, w_e2, w_lst, w_lcons, w_lnil, w_cut, w_osome, w_call, w_var, w_c]
  refine ⟨_, rfl, rfl, ?_⟩
  rw [cell_ok (ns := ns) rfl, w_ok]
  refine ⟨by show 1 ≤ lineN; decide, _, rfl, _, rfl, _, rfl, ?_⟩
  have e1 : bCut (.ref 0) (some 1) (some 6) ([Cell.fz (ns.map D.int)] ++ [.lst [.int (ns.getD 0 0)]]) = .ok (.ref 2) ([Cell.fz (ns.map D.int), .lst [.int (ns.getD 0 0)], .lst (((ns.drop 1).take 5).map D.int)]) := by
    unfold bCut
    simp [cellL, cut16]
  rw [e1, w_ok]
  have e2 : bAdd (.ref [Cell.fz (ns.map D.int)].length) (.ref 2) ([Cell.fz (ns.map D.int), .lst [.int (ns.getD 0 0)], .lst (((ns.drop 1).take 5).map D.int)]) = .ok (.ref 3) ([Cell.fz (ns.map D.int), .lst [.int (ns.getD 0 0)], .lst (((ns.drop 1).take 5).map D.int), .lst ((items ns).map D.int)]) := by
    unfold bAdd
    simp [cellL, items]
    unfold lineN
    omega
  rw [e2, w_ok]
  generalize hX : [Cell.fz (ns.map D.int), .lst [.int (ns.getD 0 0)], .lst (((ns.drop 1).take 5).map D.int), .lst ((items ns).map D.int)] = X
  have hX0 : X[0]? = some (.fz (ns.map D.int)) := by rw [← hX]; rfl
  have hX3 : X[3]? = some (.lst ((items ns).map D.int)) := by rw [← hX]; rfl
  clear hX e1 e2
  obtain ⟨J, hJ, hJn, hat⟩ := listD_seq (d := .ref 3) (S := X) (l := (items ns).map D.int) (by show cellL _ = _; rw [hX3]; rfl)
  refine ⟨J, hJ, ?_⟩
  rw [hJn]
  refine goodS.mono (w_forL ((items ns).map D.int) (fun i ρ S' => S'[0]? = some (.fz (ns.map D.int)) ∧ S'[3]? = some (.lst ((items ns).map D.int)) ∧ ∃ a b c d e f, ρ = [some (.ref 0), a, b, c, d, e, f]) (fun i ρ S' hi hl => ?_) (fun i x ρ S' hx hi => ?_) _ 0 _ _ (by omega) (Nat.zero_le _) ⟨hX0, hX3, _, _, _, _, _, _, rfl⟩) (fun ρ S' hi => ?_) (fun _ _ z => z)
  · obtain ⟨h0, h3, _⟩ := hi
    exact hat _ (by show cellL _ = _; rw [h3]; rfl) i
  · obtain ⟨h0, h3, a, b, c, d, e, f, rfl⟩ := hi
    obtain ⟨z, hzm, rfl⟩ := List.mem_map.mp (List.mem_of_getElem? hx)
    have hs0 := get_lt h0
    have hs3 := get_lt h3
    refine ⟨_, by simp [tgN]; rfl, ?_⟩
    simp only [w_seq, w_asg, w_call, w_lcons, w_lnil, w_var, w_for, w_iseq, w_lst, w_c, w_if, w_tnot, w_tv, w_nil, e_source]
    refine ⟨_, rfl, rfl, ?_⟩
    refine (source_ok (hil z hzm)).mono fun r T h => ?_
    obtain ⟨σ, rfl, rfl, ho⟩ := h
    refine ⟨_, by simp [tgN]; rfl, _, rfl, rfl, ?_⟩
    refine (any_ok (S := S' ++ [sgC σ]) gEnd2 ho (by omega)).mono fun r T h => ?_
    obtain ⟨σ1, cs, rk, bs, k, G, hg, rfl, rfl, hk, ho1⟩ := h
    refine ⟨_, by simp [tgT, tgCons, tgN, tgNil]; rfl, by show 2 ≤ lineN; decide, ?_⟩
    generalize hX : (S' ++ [sgC σ]).set S'.length (sgC σ1) ++ G = X
    have x0 : X[0]? = some (.fz (ns.map D.int)) := by rw [← hX, keepI hs0]; exact h0
    have x3 : X[3]? = some (.lst ((items ns).map D.int)) := by rw [← hX, keepI hs3]; exact h3
    have xs : X[S'.length]? = some (sgC σ1) := by rw [← hX]; exact getSet (by simp)
    have xk : X[S'.length + 1 + k]? = some (.lst (bs.map blkD)) := by
      rw [← hX, show S'.length + 1 + k = (S' ++ [sgC σ]).length + k by simp, getSGk]; exact hk
    have hlk : S'.length + 1 + k ≠ S'.length := by omega
    generalize S'.length + 1 + k = nk at *
    clear hX h0 h3 hat hJ hJn
    generalize S'.length = s at *
    obtain ⟨J2, hJ2, hJn2, hat2⟩ := listD_seq (d := .ref X.length) (S := X ++ [.lst [D.str [65], .str [66]]]) (l := [D.str [65], .str [66]]) (by show cellL _ = _; rw [gEnd2]; rfl)
    refine ⟨J2, hJ2, ?_⟩
    rw [hJn2]
    have hxl := get_lt xs
    refine goodS.mono (w_forL [D.str [65], .str [66]] (fun i ρ S' => ∃ σ', S' = X.set s (sgC σ') ++ [.lst [D.str [65], .str [66]]] ∧ okG (0 + 5000 + 1000 * i) σ' ∧ ∃ g, ρ = [some (.ref 0), some (.int z), some (.ref s), some (.tup (cs.map D.int)), some (.tup (rk.map D.int)), some (.ref nk), g]) (fun i ρ S' hi hl => ?_) (fun i x ρ S' hx hi => ?_) _ 0 _ _ (by simp) (Nat.zero_le _) ⟨σ1, by rw [set_self xs], ho1, _, rfl⟩) (fun ρ S' hi => ?_) (fun _ _ z => z)
    · obtain ⟨σ', rfl, _⟩ := hi
      exact hat2 _ (by show cellL _ = _; rw [getS0]; rfl) i
    · obtain ⟨σ', rfl, ho', g, rfl⟩ := hi
      have hi2 := (List.getElem?_eq_some_iff.mp hx).1
      simp at hi2
      obtain ⟨p, rfl, hp⟩ : ∃ p : Nat, x = .str [p] ∧ (p = 65 ∨ p = 66) := by
        have hm := List.mem_of_getElem? hx
        rcases List.mem_cons.mp hm with rfl | hm
        · exact ⟨65, rfl, .inl rfl⟩
        cases List.mem_singleton.mp hm
        exact ⟨66, rfl, .inr rfl⟩
      refine ⟨_, by simp [tgN]; rfl, ?_⟩
      simp only [w_seq, w_if, w_tnot, w_tv, w_call, w_lcons, w_lnil, w_var, w_nil]
      refine ⟨_, rfl, _, rfl, _, rfl, _, rfl, _, rfl, rfl, ?_⟩
      have hd : listD (.ref nk) (X.set s (sgC σ') ++ [.lst [D.str [65], .str [66]]]) = some (bs.map blkD) := by
        refine listD_app (listD_set ?_ (fun e => hlk (by injection e)))
        show cellL _ = _
        rw [xk]; rfl
      refine (right_ok (s := s) hg hd (fun e => hlk (by injection e)) hp (getSet hxl) ho' (by omega)).mono fun r T h => ?_
      obtain ⟨rfl, σ2, rfl, ho2⟩ := h
      refine ⟨true, rfl, ?_⟩
      rw [if_neg (by simp), setSet hxl]
      exact ⟨σ2, rfl, ho2.le (by omega), _, rfl⟩
    · obtain ⟨σ', rfl, ho', g, rfl⟩ := hi
      have n0 : 0 ≠ s := by omega
      have n3 : 3 ≠ s := by omega
      refine ⟨?_, ?_, _, _, _, _, _, _, rfl⟩
      · rw [get_app (by simpa using get_lt x0), List.getElem?_set_ne (Ne.symm n0)]; exact x0
      · rw [get_app (by simpa using get_lt x3), List.getElem?_set_ne (Ne.symm n3)]; exact x3
  · obtain ⟨h0, h3, a, b, c, d, e, f, rfl⟩ := hi
    simp only [w_seq, w_asg, w_call, w_lcons, w_lnil, w_var, w_lst, w_c, w_ret, e_source, e_pick]
    refine ⟨_, rfl, rfl, ?_⟩
    rw [cell_ok h0, w_ok]
    refine ⟨rfl, ?_⟩
    refine (source_ok hc0).mono fun r T h => ?_
    obtain ⟨σ, rfl, rfl, ho⟩ := h
    refine ⟨_, by simp [tgN]; rfl, _, rfl, rfl, ?_⟩
    refine (wide_ok (S := S' ++ [sgC σ]) gEnd2 ho (by omega)).mono fun r T h => ?_
    obtain ⟨σ1, cs, rk, bs, k, G, hg, rfl, rfl, hk, ho1⟩ := h
    refine ⟨_, by simp [tgT, tgCons, tgN, tgNil]; rfl, ?_⟩
    generalize hX : (S' ++ [sgC σ]).set S'.length (sgC σ1) ++ G = X
    have xs : X[S'.length]? = some (sgC σ1) := by rw [← hX]; exact getSet (by simp)
    have xk : X[S'.length + 1 + k]? = some (.lst (bs.map blkD)) := by
      rw [← hX, show S'.length + 1 + k = (S' ++ [sgC σ]).length + k by simp, getSGk]; exact hk
    have hlk : S'.length + 1 + k ≠ S'.length := by omega
    generalize S'.length + 1 + k = nk at *
    clear hX h0 h3 hat hJ hJn
    generalize S'.length = s at *
    have hxl := get_lt xs
    refine ⟨_, rfl, _, rfl, _, rfl, _, rfl, _, rfl, by show 2 ≤ lineN; decide, rfl, ?_⟩
    have hX : X ++ [.lst [D.str [65], .str [66]]] = X.set s (sgC σ1) ++ [.lst [D.str [65], .str [66]]] := by rw [set_self xs]
    rw [hX]
    refine (pickA0 hxl ho1 (by omega) (by simp) (by show 2 ≤ lineN; decide) rfl).mono fun r T h => ?_
    obtain ⟨hr, σ2, rfl, ho2⟩ := h
    obtain ⟨p, rfl, hp⟩ : ∃ p : Nat, r = .str [p] ∧ (p = 65 ∨ p = 66) := by
      rcases List.mem_cons.mp hr with rfl | hm
      · exact ⟨65, rfl, .inl rfl⟩
      cases List.mem_singleton.mp hm
      exact ⟨66, rfl, .inr rfl⟩
    refine ⟨rfl, ?_⟩
    have hd : listD (.ref nk) (X.set s (sgC σ2) ++ [.lst [D.str [65], .str [66]]]) = some (bs.map blkD) := by
      refine listD_app (listD_set ?_ (fun e => hlk (by injection e)))
      show cellL _ = _
      rw [xk]; rfl
    refine (right_ok (s := s) hg hd (fun e => hlk (by injection e)) hp (getSet hxl) ho2 (by omega)).mono fun r T h => ?_
    exact h.1
end
end G30

set_option Elab.async false
set_option linter.all false
set_option maxRecDepth 100000
set_option maxHeartbeats 0
namespace G30
open PySem PySem.Spec PyProof.Rows L2 T
abbrev LW : PySem.W.OpenLaw := PySem.Challenge.rw_turnpicks_k30_sure_numbers
def topS (i : Nat) : Stmt := PySem.Challenge.pw_turnpicks_k30_sure_numbers.main.body.getD i (.Pass ⟨0, 0, 0, 0⟩)
def dfn (x : Str) (i : Nat) : He.DefD := ⟨(x, none), x, x, defArgs (topS i), defBody (topS i), defScope (topS i), [], []⟩
def fn : List He.DefD := ([dfn "_law_source" 38, dfn "_law_take" 39, dfn "_law_shuffled" 41, dfn "_law_ranking" 42, dfn "_law_pick" 40, dfn "_law_wide_game" 48, dfn "_law_big_share" 46, dfn "_law_sums" 45, dfn "_law_sure" 49, dfn "is_integer" 13, dfn "is_at_least" 14, dfn "is_bundle" 16, dfn "require_counts" 20, dfn "is_between" 15, dfn "is_list" 17, dfn "require_list" 21, dfn "is_turns" 18, dfn "is_block" 19, dfn "require_sequence" 22, dfn "require_player" 23, dfn "require_side" 30, dfn "picks_of" 24, dfn "require_fits" 25, dfn "count_turns" 28, dfn "prefix_sums" 26, dfn "sure_of" 31, dfn "sure_counts" 32, dfn "sure_bundle" 33, dfn "require_wanted" 34, dfn "is_sure" 35] : List He.DefD) ++ ([dfn "_law_wanted_right" 50, dfn "_law_right" 51, dfn "_law_supply" 43, dfn "_law_blocks" 44, dfn "_law_any_game" 47, dfn "_law_cell_at" 37, dfn "law" 52] : List He.DefD)
def fa : List He.Fa := ([.glo "_law_source", .glo "_law_take", .glo "_law_shuffled", .glo "_law_ranking", .glo "_law_pick", .glo "_law_wide_game", .glo "_law_big_share", .glo "_law_sums", .glo "_law_sure", .glo "is_integer", .glo "is_at_least", .glo "is_bundle", .glo "require_counts", .glo "is_between", .glo "is_list", .glo "require_list", .glo "is_turns", .glo "is_block", .glo "require_sequence", .glo "require_player", .glo "require_side", .glo "picks_of", .glo "require_fits", .glo "count_turns", .glo "prefix_sums", .glo "sure_of", .glo "sure_counts", .glo "sure_bundle", .glo "require_wanted", .glo "is_sure"] : List He.Fa) ++ ([.glo "_law_wanted_right", .glo "_law_right", .glo "_law_supply", .glo "_law_blocks", .glo "_law_any_game", .glo "_law_cell_at", .glo "law", .free "ValueError", .free "all", .free "bool", .free "enumerate", .free "int", .free "isinstance", .free "len", .free "list", .free "min", .free "range", .free "sorted", .free "str", .free "sum", .free "tuple", .free "zip", .int "MAX_KINDS" 60, .int "MAX_BLOCKS" 200, .int "MAX_TURNS" 20, .glo "PLAYERS"] : List He.Fa)
def ex (K : PySem.W.Frag) : Bool := tupS K "PLAYERS" ["A", "B"]
def con : List (Str × D) := [("MAX_KINDS", .int 60), ("MAX_BLOCKS", .int 200), ("MAX_TURNS", .int 20), ("PLAYERS", .tup [.str [65], .str [66]])]
def blt : List Str := ["ValueError", "all", "bool", "enumerate", "int", "isinstance", "len", "list", "min", "range", "sorted", "str", "sum", "tuple", "zip"]
def N_0 : List Str := ["_law_cell"]
theorem c_0 : cSs 200 ⟨N_0, defScope (topS 38), fun _ => true, [], con, blt⟩ (defBody (topS 38)) = some b__law_source := by kernel_rfl
theorem s_0 : scB N_0 ["_law_cell"] (defScope (topS 38)) = true := by kernel_rfl
def fns_0 : List (Str × Nat × FSem) := ("_law_source", 1, d__law_source) :: []
def N_1 : List Str := ["_law_source_here", "_law_bound", "_law_digit", "_law_mixed"]
theorem c_1 : cSs 200 ⟨N_1, defScope (topS 39), fun _ => true, fns_0, con, blt⟩ (defBody (topS 39)) = some b__law_take := by kernel_rfl
theorem s_1 : scB N_1 ["_law_source_here", "_law_bound"] (defScope (topS 39)) = true := by kernel_rfl
def fns_1 : List (Str × Nat × FSem) := ("_law_take", 2, d__law_take) :: fns_0
def N_2 : List Str := ["_law_source_here", "_law_items", "_law_pool", "_law_result"]
theorem c_2 : cSs 200 ⟨N_2, defScope (topS 41), fun _ => true, fns_1, con, blt⟩ (defBody (topS 41)) = some b__law_shuffled := by kernel_rfl
theorem s_2 : scB N_2 ["_law_source_here", "_law_items"] (defScope (topS 41)) = true := by kernel_rfl
def fns_2 : List (Str × Nat × FSem) := ("_law_shuffled", 2, d__law_shuffled) :: fns_1
def N_3 : List Str := ["_law_source_here", "_law_many"]
theorem c_3 : cSs 200 ⟨N_3, defScope (topS 42), fun _ => true, fns_2, con, blt⟩ (defBody (topS 42)) = some b__law_ranking := by kernel_rfl
theorem s_3 : scB N_3 ["_law_source_here", "_law_many"] (defScope (topS 42)) = true := by kernel_rfl
def fns_3 : List (Str × Nat × FSem) := ("_law_ranking", 2, d__law_ranking) :: fns_2
def N_4 : List Str := ["_law_source_here", "_law_items"]
theorem c_4 : cSs 200 ⟨N_4, defScope (topS 40), fun _ => true, fns_3, con, blt⟩ (defBody (topS 40)) = some b__law_pick := by kernel_rfl
theorem s_4 : scB N_4 ["_law_source_here", "_law_items"] (defScope (topS 40)) = true := by kernel_rfl
def fns_4 : List (Str × Nat × FSem) := ("_law_pick", 2, d__law_pick) :: fns_3
def N_5 : List Str := ["_law_source_here", "_law_supply_here", "_law_blocks_here", "_law_k", "_law_size", "_law_letters", "_law_j"]
theorem c_5 : cSs 200 ⟨N_5, defScope (topS 48), fun _ => true, fns_4, con, blt⟩ (defBody (topS 48)) = some b__law_wide_game := by kernel_rfl
theorem s_5 : scB N_5 ["_law_source_here"] (defScope (topS 48)) = true := by kernel_rfl
def fns_5 : List (Str × Nat × FSem) := ("_law_wide_game", 1, d__law_wide_game) :: fns_4
def N_6 : List Str := ["_law_blocks_here", "_law_who", "_law_picks_made", "_law_total", "_law_letters", "_law_times_here", "_law_size", "_law_here"]
theorem c_6 : cSs 200 ⟨N_6, defScope (topS 46), fun _ => true, fns_5, con, blt⟩ (defBody (topS 46)) = some b__law_big_share := by kernel_rfl
theorem s_6 : scB N_6 ["_law_blocks_here", "_law_who", "_law_picks_made"] (defScope (topS 46)) = true := by kernel_rfl
def fns_6 : List (Str × Nat × FSem) := ("_law_big_share", 3, d__law_big_share) :: fns_5
def N_7 : List Str := ["_law_supply_here", "_law_ranking_here", "_law_result", "_law_total", "_law_kind_here"]
theorem c_7 : cSs 200 ⟨N_7, defScope (topS 45), fun _ => true, fns_6, con, blt⟩ (defBody (topS 45)) = some b__law_sums := by kernel_rfl
theorem s_7 : scB N_7 ["_law_supply_here", "_law_ranking_here"] (defScope (topS 45)) = true := by kernel_rfl
def fns_7 : List (Str × Nat × FSem) := ("_law_sums", 2, d__law_sums) :: fns_6
def N_8 : List Str := ["_law_supply_here", "_law_ranking_here", "_law_blocks_here", "_law_who", "_law_total"]
theorem c_8 : cSs 200 ⟨N_8, defScope (topS 49), fun _ => true, fns_7, con, blt⟩ (defBody (topS 49)) = some b__law_sure := by kernel_rfl
theorem s_8 : scB N_8 ["_law_supply_here", "_law_ranking_here", "_law_blocks_here", "_law_who"] (defScope (topS 49)) = true := by kernel_rfl
def fns_8 : List (Str × Nat × FSem) := ("_law_sure", 4, d__law_sure) :: fns_7
def N_9 : List Str := ["value"]
theorem c_9 : cSs 200 ⟨N_9, defScope (topS 13), fun _ => true, fns_8, con, blt⟩ (defBody (topS 13)) = some b_is_integer := by kernel_rfl
theorem s_9 : scB N_9 ["value"] (defScope (topS 13)) = true := by kernel_rfl
def fns_9 : List (Str × Nat × FSem) := ("is_integer", 1, d_is_integer) :: fns_8
def N_10 : List Str := ["value", "low"]
theorem c_10 : cSs 200 ⟨N_10, defScope (topS 14), fun _ => true, fns_9, con, blt⟩ (defBody (topS 14)) = some b_is_at_least := by kernel_rfl
theorem s_10 : scB N_10 ["value", "low"] (defScope (topS 14)) = true := by kernel_rfl
def fns_10 : List (Str × Nat × FSem) := ("is_at_least", 2, d_is_at_least) :: fns_9
def N_11 : List Str := ["value", "many", "entry"]
theorem c_11 : cSs 200 ⟨N_11, defScope (topS 16), fun _ => true, fns_10, con, blt⟩ (defBody (topS 16)) = some b_is_bundle := by kernel_rfl
theorem s_11 : scB N_11 ["value", "many"] (defScope (topS 16)) = true := by kernel_rfl
def fns_11 : List (Str × Nat × FSem) := ("is_bundle", 2, d_is_bundle) :: fns_10
def N_12 : List Str := ["counts"]
theorem c_12 : cSs 200 ⟨N_12, defScope (topS 20), fun _ => true, fns_11, con, blt⟩ (defBody (topS 20)) = some b_require_counts := by kernel_rfl
theorem s_12 : scB N_12 ["counts"] (defScope (topS 20)) = true := by kernel_rfl
def fns_12 : List (Str × Nat × FSem) := ("require_counts", 1, d_require_counts) :: fns_11
def N_13 : List Str := ["value", "low", "high"]
theorem c_13 : cSs 200 ⟨N_13, defScope (topS 15), fun _ => true, fns_12, con, blt⟩ (defBody (topS 15)) = some b_is_between := by kernel_rfl
theorem s_13 : scB N_13 ["value", "low", "high"] (defScope (topS 15)) = true := by kernel_rfl
def fns_13 : List (Str × Nat × FSem) := ("is_between", 3, d_is_between) :: fns_12
def N_14 : List Str := ["value", "many", "kind"]
theorem c_14 : cSs 200 ⟨N_14, defScope (topS 17), fun _ => true, fns_13, con, blt⟩ (defBody (topS 17)) = some b_is_list := by kernel_rfl
theorem s_14 : scB N_14 ["value", "many"] (defScope (topS 17)) = true := by kernel_rfl
def fns_14 : List (Str × Nat × FSem) := ("is_list", 2, d_is_list) :: fns_13
def N_15 : List Str := ["ranking", "many"]
theorem c_15 : cSs 200 ⟨N_15, defScope (topS 21), fun _ => true, fns_14, con, blt⟩ (defBody (topS 21)) = some b_require_list := by kernel_rfl
theorem s_15 : scB N_15 ["ranking", "many"] (defScope (topS 21)) = true := by kernel_rfl
def fns_15 : List (Str × Nat × FSem) := ("require_list", 2, d_require_list) :: fns_14
def N_16 : List Str := ["value", "letter"]
theorem c_16 : cSs 200 ⟨N_16, defScope (topS 18), fun _ => true, fns_15, con, blt⟩ (defBody (topS 18)) = some b_is_turns := by kernel_rfl
theorem s_16 : scB N_16 ["value"] (defScope (topS 18)) = true := by kernel_rfl
def fns_16 : List (Str × Nat × FSem) := ("is_turns", 1, d_is_turns) :: fns_15
def N_17 : List Str := ["value"]
theorem c_17 : cSs 200 ⟨N_17, defScope (topS 19), fun _ => true, fns_16, con, blt⟩ (defBody (topS 19)) = some b_is_block := by kernel_rfl
theorem s_17 : scB N_17 ["value"] (defScope (topS 19)) = true := by kernel_rfl
def fns_17 : List (Str × Nat × FSem) := ("is_block", 1, d_is_block) :: fns_16
def N_18 : List Str := ["sequence", "index", "block"]
theorem c_18 : cSs 200 ⟨N_18, defScope (topS 22), fun _ => true, fns_17, con, blt⟩ (defBody (topS 22)) = some b_require_sequence := by kernel_rfl
theorem s_18 : scB N_18 ["sequence"] (defScope (topS 22)) = true := by kernel_rfl
def fns_18 : List (Str × Nat × FSem) := ("require_sequence", 1, d_require_sequence) :: fns_17
def N_19 : List Str := ["player"]
theorem c_19 : cSs 200 ⟨N_19, defScope (topS 23), fun _ => true, fns_18, con, blt⟩ (defBody (topS 23)) = some b_require_player := by kernel_rfl
theorem s_19 : scB N_19 ["player"] (defScope (topS 23)) = true := by kernel_rfl
def fns_19 : List (Str × Nat × FSem) := ("require_player", 1, d_require_player) :: fns_18
def N_20 : List Str := ["counts", "ranking", "sequence", "player"]
theorem c_20 : cSs 200 ⟨N_20, defScope (topS 30), fun _ => true, fns_19, con, blt⟩ (defBody (topS 30)) = some b_require_side := by kernel_rfl
theorem s_20 : scB N_20 ["counts", "ranking", "sequence", "player"] (defScope (topS 30)) = true := by kernel_rfl
def fns_20 : List (Str × Nat × FSem) := ("require_side", 4, d_require_side) :: fns_19
def N_21 : List Str := ["sequence", "turns", "times"]
theorem c_21 : cSs 200 ⟨N_21, defScope (topS 24), fun _ => true, fns_20, con, blt⟩ (defBody (topS 24)) = some b_picks_of := by kernel_rfl
theorem s_21 : scB N_21 ["sequence"] (defScope (topS 24)) = true := by kernel_rfl
def fns_21 : List (Str × Nat × FSem) := ("picks_of", 1, d_picks_of) :: fns_20
def N_22 : List Str := ["counts", "sequence"]
theorem c_22 : cSs 200 ⟨N_22, defScope (topS 25), fun _ => true, fns_21, con, blt⟩ (defBody (topS 25)) = some b_require_fits := by kernel_rfl
theorem s_22 : scB N_22 ["counts", "sequence"] (defScope (topS 25)) = true := by kernel_rfl
def fns_22 : List (Str × Nat × FSem) := ("require_fits", 2, d_require_fits) :: fns_21
def N_23 : List Str := ["sequence", "player", "picks", "found", "turns", "times", "whole"]
theorem c_23 : cSs 200 ⟨N_23, defScope (topS 28), fun _ => true, fns_22, con, blt⟩ (defBody (topS 28)) = some b_count_turns := by kernel_rfl
theorem s_23 : scB N_23 ["sequence", "player", "picks"] (defScope (topS 28)) = true := by kernel_rfl
def fns_23 : List (Str × Nat × FSem) := ("count_turns", 3, d_count_turns) :: fns_22
def N_24 : List Str := ["counts", "ranking", "found", "total", "kind"]
theorem c_24 : cSs 200 ⟨N_24, defScope (topS 26), fun _ => true, fns_23, con, blt⟩ (defBody (topS 26)) = some b_prefix_sums := by kernel_rfl
theorem s_24 : scB N_24 ["counts", "ranking"] (defScope (topS 26)) = true := by kernel_rfl
def fns_24 : List (Str × Nat × FSem) := ("prefix_sums", 2, d_prefix_sums) :: fns_23
def N_25 : List Str := ["counts", "ranking", "sequence", "player", "picks"]
theorem c_25 : cSs 200 ⟨N_25, defScope (topS 31), fun _ => true, fns_24, con, blt⟩ (defBody (topS 31)) = some b_sure_of := by kernel_rfl
theorem s_25 : scB N_25 ["counts", "ranking", "sequence", "player"] (defScope (topS 31)) = true := by kernel_rfl
def fns_25 : List (Str × Nat × FSem) := ("sure_of", 4, d_sure_of) :: fns_24
def N_26 : List Str := ["counts", "ranking", "sequence", "player"]
theorem c_26 : cSs 200 ⟨N_26, defScope (topS 32), fun _ => true, fns_25, con, blt⟩ (defBody (topS 32)) = some b_sure_counts := by kernel_rfl
theorem s_26 : scB N_26 ["counts", "ranking", "sequence", "player"] (defScope (topS 32)) = true := by kernel_rfl
def fns_26 : List (Str × Nat × FSem) := ("sure_counts", 4, d_sure_counts) :: fns_25
def N_27 : List Str := ["counts", "ranking", "sequence", "player", "told", "found", "before", "kind", "sure"]
theorem c_27 : cSs 200 ⟨N_27, defScope (topS 33), fun _ => true, fns_26, con, blt⟩ (defBody (topS 33)) = some b_sure_bundle := by kernel_rfl
theorem s_27 : scB N_27 ["counts", "ranking", "sequence", "player"] (defScope (topS 33)) = true := by kernel_rfl
def fns_27 : List (Str × Nat × FSem) := ("sure_bundle", 4, d_sure_bundle) :: fns_26
def N_28 : List Str := ["wanted", "many", "index", "entry"]
theorem c_28 : cSs 200 ⟨N_28, defScope (topS 34), fun _ => true, fns_27, con, blt⟩ (defBody (topS 34)) = some b_require_wanted := by kernel_rfl
theorem s_28 : scB N_28 ["wanted", "many"] (defScope (topS 34)) = true := by kernel_rfl
def fns_28 : List (Str × Nat × FSem) := ("require_wanted", 2, d_require_wanted) :: fns_27
def N_29 : List Str := ["counts", "ranking", "sequence", "player", "wanted", "sure", "entry", "most"]
theorem c_29 : cSs 200 ⟨N_29, defScope (topS 35), fun _ => true, fns_28, con, blt⟩ (defBody (topS 35)) = some b_is_sure := by kernel_rfl
theorem s_29 : scB N_29 ["counts", "ranking", "sequence", "player", "wanted"] (defScope (topS 35)) = true := by kernel_rfl
def fns_29 : List (Str × Nat × FSem) := ("is_sure", 5, d_is_sure) :: fns_28
def N_30 : List Str := ["_law_source_here", "_law_supply_here", "_law_ranking_here", "_law_blocks_here", "_law_who", "_law_due", "_law_fewer", "_law_some", "_law_k", "_law_more", "_law_sure_here"]
theorem c_30 : cSs 200 ⟨N_30, defScope (topS 50), fun _ => true, fns_29, con, blt⟩ (defBody (topS 50)) = some b__law_wanted_right := by kernel_rfl
theorem s_30 : scB N_30 ["_law_source_here", "_law_supply_here", "_law_ranking_here", "_law_blocks_here", "_law_who"] (defScope (topS 50)) = true := by kernel_rfl
def fns_30 : List (Str × Nat × FSem) := ("_law_wanted_right", 5, d__law_wanted_right) :: fns_29
def N_31 : List Str := ["_law_source_here", "_law_supply_here", "_law_ranking_here", "_law_blocks_here", "_law_who", "_law_due", "_law_told", "_law_some"]
theorem c_31 : cSs 200 ⟨N_31, defScope (topS 51), fun _ => true, fns_30, con, blt⟩ (defBody (topS 51)) = some b__law_right := by kernel_rfl
theorem s_31 : scB N_31 ["_law_source_here", "_law_supply_here", "_law_ranking_here", "_law_blocks_here", "_law_who"] (defScope (topS 51)) = true := by kernel_rfl
def fns_31 : List (Str × Nat × FSem) := ("_law_right", 5, d__law_right) :: fns_30
def N_32 : List Str := ["_law_source_here", "_law_most", "_law_wide", "_law_size", "_law_k"]
theorem c_32 : cSs 200 ⟨N_32, defScope (topS 43), fun _ => true, fns_31, con, blt⟩ (defBody (topS 43)) = some b__law_supply := by kernel_rfl
theorem s_32 : scB N_32 ["_law_source_here", "_law_most", "_law_wide"] (defScope (topS 43)) = true := by kernel_rfl
def fns_32 : List (Str × Nat × FSem) := ("_law_supply", 3, d__law_supply) :: fns_31
def N_33 : List Str := ["_law_source_here", "_law_room", "_law_wide", "_law_result", "_law_k", "_law_size", "_law_letters", "_law_times_here", "_law_j"]
theorem c_33 : cSs 200 ⟨N_33, defScope (topS 44), fun _ => true, fns_32, con, blt⟩ (defBody (topS 44)) = some b__law_blocks := by kernel_rfl
theorem s_33 : scB N_33 ["_law_source_here", "_law_room", "_law_wide"] (defScope (topS 44)) = true := by kernel_rfl
def fns_33 : List (Str × Nat × FSem) := ("_law_blocks", 3, d__law_blocks) :: fns_32
def N_34 : List Str := ["_law_source_here", "_law_wide", "_law_supply_here", "_law_blocks_here"]
theorem c_34 : cSs 200 ⟨N_34, defScope (topS 47), fun _ => true, fns_33, con, blt⟩ (defBody (topS 47)) = some b__law_any_game := by kernel_rfl
theorem s_34 : scB N_34 ["_law_source_here"] (defScope (topS 47)) = true := by kernel_rfl
def fns_34 : List (Str × Nat × FSem) := ("_law_any_game", 1, d__law_any_game) :: fns_33
def N_35 : List Str := ["_law_script", "_law_k"]
theorem c_35 : cSs 200 ⟨N_35, defScope (topS 37), fun _ => true, fns_34, con, blt⟩ (defBody (topS 37)) = some b__law_cell_at := by kernel_rfl
theorem s_35 : scB N_35 ["_law_script", "_law_k"] (defScope (topS 37)) = true := by kernel_rfl
def fns_35 : List (Str × Nat × FSem) := ("_law_cell_at", 2, d__law_cell_at) :: fns_34
def N_36 : List Str := ["_law_script", "_law_cell", "_law_source_here", "_law_supply_here", "_law_ranking_here", "_law_blocks_here", "_law_who"]
theorem c_36 : cSs 200 ⟨N_36, defScope (topS 52), fun _ => true, fns_35, con, blt⟩ (defBody (topS 52)) = some b_law := by kernel_rfl
theorem s_36 : scB N_36 ["_law_script"] (defScope (topS 52)) = true := by kernel_rfl
def fns_36 : List (Str × Nat × FSem) := ("law", 1, d_law) :: fns_35
section
variable {P : Program} {w : World} {K : PySem.W.Frag} {mg : Str → Option Value} {base : Heap} {h : Heap}
theorem conOk (X : K.In h) (G : h.Ns mainGlobals mg) (c : He.SaysD fa fn K) (e : ex K = true) : ConOk K mg con := by
  intro x d hx
  unfold con at hx
  unfold ex at e
  rw [List.lookup_cons] at hx
  split at hx
  · rename_i hb
    cases hx
    rw [beq_iff_eq.mp hb]
    obtain ⟨t, q⟩ := He.int_ok X G (c.fact 52 (f := .int "MAX_KINDS" 60) (by kernel_rfl))
    exact ⟨.int 60, _, q, ⟨t, rfl⟩, fun m H => rfl⟩
  rw [List.lookup_cons] at hx
  split at hx
  · rename_i hb
    cases hx
    rw [beq_iff_eq.mp hb]
    obtain ⟨t, q⟩ := He.int_ok X G (c.fact 53 (f := .int "MAX_BLOCKS" 200) (by kernel_rfl))
    exact ⟨.int 200, _, q, ⟨t, rfl⟩, fun m H => rfl⟩
  rw [List.lookup_cons] at hx
  split at hx
  · rename_i hb
    cases hx
    rw [beq_iff_eq.mp hb]
    obtain ⟨t, q⟩ := He.int_ok X G (c.fact 54 (f := .int "MAX_TURNS" 20) (by kernel_rfl))
    exact ⟨.int 20, _, q, ⟨t, rfl⟩, fun m H => rfl⟩
  rw [List.lookup_cons] at hx
  split at hx
  · rename_i hb
    cases hx
    rw [beq_iff_eq.mp hb]
    exact ⟨.ref _, _, He.glo_ok X G (c.fact 55 (f := .glo "PLAYERS") (by kernel_rfl)), rfl, fun m H => tupS_ok e m H⟩
  cases hx
theorem bltOk (X : K.In h) (G : h.Ns mainGlobals mg) (c : He.SaysD fa fn K) : BltOk mg blt := by
  intro x hx
  have hx : x ∈ blt := List.contains_iff_mem.mp hx
  simp only [blt, List.mem_cons, List.mem_nil_iff, or_false] at hx
  rcases hx with rfl | rfl | rfl | rfl | rfl | rfl | rfl | rfl | rfl | rfl | rfl | rfl | rfl | rfl | rfl
  · exact He.free_ok X G (c.fact 37 (f := .free "ValueError") (by kernel_rfl))
  · exact He.free_ok X G (c.fact 38 (f := .free "all") (by kernel_rfl))
  · exact He.free_ok X G (c.fact 39 (f := .free "bool") (by kernel_rfl))
  · exact He.free_ok X G (c.fact 40 (f := .free "enumerate") (by kernel_rfl))
  · exact He.free_ok X G (c.fact 41 (f := .free "int") (by kernel_rfl))
  · exact He.free_ok X G (c.fact 42 (f := .free "isinstance") (by kernel_rfl))
  · exact He.free_ok X G (c.fact 43 (f := .free "len") (by kernel_rfl))
  · exact He.free_ok X G (c.fact 44 (f := .free "list") (by kernel_rfl))
  · exact He.free_ok X G (c.fact 45 (f := .free "min") (by kernel_rfl))
  · exact He.free_ok X G (c.fact 46 (f := .free "range") (by kernel_rfl))
  · exact He.free_ok X G (c.fact 47 (f := .free "sorted") (by kernel_rfl))
  · exact He.free_ok X G (c.fact 48 (f := .free "str") (by kernel_rfl))
  · exact He.free_ok X G (c.fact 49 (f := .free "sum") (by kernel_rfl))
  · exact He.free_ok X G (c.fact 50 (f := .free "tuple") (by kernel_rfl))
  · exact He.free_ok X G (c.fact 51 (f := .free "zip") (by kernel_rfl))
theorem f_0 (X : K.In h) (G : h.Ns mainGlobals mg) (c : He.SaysD fa fn K) (e : ex K = true) : FnsOk P w K mg base 1 fns_0 := by
  obtain ⟨fd, F⟩ := c.def_ 0 (d := dfn "_law_source" 38) (by kernel_rfl)
  exact FnsOk.cons FnsOk.nil (def_ok (n := 1) (k := 0) F (scB_ok s_0) rfl c_0 FnsOk.nil (conOk X G c e) (bltOk X G c)) (Nat.le_refl _) (He.glo_ok X G (c.fact 0 (f := .glo "_law_source") (by kernel_rfl))) F.kp (F.bindsN (ps := ["_law_cell"]) fun _ _ _ _ _ _ us hl => match us, hl with | [_], _ => rfl)
theorem f_1 (X : K.In h) (G : h.Ns mainGlobals mg) (c : He.SaysD fa fn K) (e : ex K = true) : FnsOk P w K mg base 2 fns_1 := by
  obtain ⟨fd, F⟩ := c.def_ 1 (d := dfn "_law_take" 39) (by kernel_rfl)
  exact FnsOk.cons (f_0 X G c e) (def_ok (n := 2) (k := 1) F (scB_ok s_1) rfl c_1 (f_0 X G c e) (conOk X G c e) (bltOk X G c)) (Nat.le_refl _) (He.glo_ok X G (c.fact 1 (f := .glo "_law_take") (by kernel_rfl))) F.kp (F.bindsN (ps := ["_law_source_here", "_law_bound"]) fun _ _ _ _ _ _ us hl => match us, hl with | [_, _], _ => rfl)
theorem f_2 (X : K.In h) (G : h.Ns mainGlobals mg) (c : He.SaysD fa fn K) (e : ex K = true) : FnsOk P w K mg base 3 fns_2 := by
  obtain ⟨fd, F⟩ := c.def_ 2 (d := dfn "_law_shuffled" 41) (by kernel_rfl)
  exact FnsOk.cons (f_1 X G c e) (def_ok (n := 2) (k := 2) F (scB_ok s_2) rfl c_2 (f_1 X G c e) (conOk X G c e) (bltOk X G c)) (Nat.le_refl _) (He.glo_ok X G (c.fact 2 (f := .glo "_law_shuffled") (by kernel_rfl))) F.kp (F.bindsN (ps := ["_law_source_here", "_law_items"]) fun _ _ _ _ _ _ us hl => match us, hl with | [_, _], _ => rfl)
theorem f_3 (X : K.In h) (G : h.Ns mainGlobals mg) (c : He.SaysD fa fn K) (e : ex K = true) : FnsOk P w K mg base 4 fns_3 := by
  obtain ⟨fd, F⟩ := c.def_ 3 (d := dfn "_law_ranking" 42) (by kernel_rfl)
  exact FnsOk.cons (f_2 X G c e) (def_ok (n := 2) (k := 3) F (scB_ok s_3) rfl c_3 (f_2 X G c e) (conOk X G c e) (bltOk X G c)) (Nat.le_refl _) (He.glo_ok X G (c.fact 3 (f := .glo "_law_ranking") (by kernel_rfl))) F.kp (F.bindsN (ps := ["_law_source_here", "_law_many"]) fun _ _ _ _ _ _ us hl => match us, hl with | [_, _], _ => rfl)
theorem f_4 (X : K.In h) (G : h.Ns mainGlobals mg) (c : He.SaysD fa fn K) (e : ex K = true) : FnsOk P w K mg base 5 fns_4 := by
  obtain ⟨fd, F⟩ := c.def_ 4 (d := dfn "_law_pick" 40) (by kernel_rfl)
  exact FnsOk.cons (f_3 X G c e) (def_ok (n := 2) (k := 4) F (scB_ok s_4) rfl c_4 (f_3 X G c e) (conOk X G c e) (bltOk X G c)) (Nat.le_refl _) (He.glo_ok X G (c.fact 4 (f := .glo "_law_pick") (by kernel_rfl))) F.kp (F.bindsN (ps := ["_law_source_here", "_law_items"]) fun _ _ _ _ _ _ us hl => match us, hl with | [_, _], _ => rfl)
theorem f_5 (X : K.In h) (G : h.Ns mainGlobals mg) (c : He.SaysD fa fn K) (e : ex K = true) : FnsOk P w K mg base 6 fns_5 := by
  obtain ⟨fd, F⟩ := c.def_ 5 (d := dfn "_law_wide_game" 48) (by kernel_rfl)
  exact FnsOk.cons (f_4 X G c e) (def_ok (n := 1) (k := 5) F (scB_ok s_5) rfl c_5 (f_4 X G c e) (conOk X G c e) (bltOk X G c)) (Nat.le_refl _) (He.glo_ok X G (c.fact 5 (f := .glo "_law_wide_game") (by kernel_rfl))) F.kp (F.bindsN (ps := ["_law_source_here"]) fun _ _ _ _ _ _ us hl => match us, hl with | [_], _ => rfl)
theorem f_6 (X : K.In h) (G : h.Ns mainGlobals mg) (c : He.SaysD fa fn K) (e : ex K = true) : FnsOk P w K mg base 7 fns_6 := by
  obtain ⟨fd, F⟩ := c.def_ 6 (d := dfn "_law_big_share" 46) (by kernel_rfl)
  exact FnsOk.cons (f_5 X G c e) (def_ok (n := 3) (k := 6) F (scB_ok s_6) rfl c_6 (f_5 X G c e) (conOk X G c e) (bltOk X G c)) (Nat.le_refl _) (He.glo_ok X G (c.fact 6 (f := .glo "_law_big_share") (by kernel_rfl))) F.kp (F.bindsN (ps := ["_law_blocks_here", "_law_who", "_law_picks_made"]) fun _ _ _ _ _ _ us hl => match us, hl with | [_, _, _], _ => rfl)
theorem f_7 (X : K.In h) (G : h.Ns mainGlobals mg) (c : He.SaysD fa fn K) (e : ex K = true) : FnsOk P w K mg base 8 fns_7 := by
  obtain ⟨fd, F⟩ := c.def_ 7 (d := dfn "_law_sums" 45) (by kernel_rfl)
  exact FnsOk.cons (f_6 X G c e) (def_ok (n := 2) (k := 7) F (scB_ok s_7) rfl c_7 (f_6 X G c e) (conOk X G c e) (bltOk X G c)) (Nat.le_refl _) (He.glo_ok X G (c.fact 7 (f := .glo "_law_sums") (by kernel_rfl))) F.kp (F.bindsN (ps := ["_law_supply_here", "_law_ranking_here"]) fun _ _ _ _ _ _ us hl => match us, hl with | [_, _], _ => rfl)
theorem f_8 (X : K.In h) (G : h.Ns mainGlobals mg) (c : He.SaysD fa fn K) (e : ex K = true) : FnsOk P w K mg base 9 fns_8 := by
  obtain ⟨fd, F⟩ := c.def_ 8 (d := dfn "_law_sure" 49) (by kernel_rfl)
  exact FnsOk.cons (f_7 X G c e) (def_ok (n := 4) (k := 8) F (scB_ok s_8) rfl c_8 (f_7 X G c e) (conOk X G c e) (bltOk X G c)) (Nat.le_refl _) (He.glo_ok X G (c.fact 8 (f := .glo "_law_sure") (by kernel_rfl))) F.kp (F.bindsN (ps := ["_law_supply_here", "_law_ranking_here", "_law_blocks_here", "_law_who"]) fun _ _ _ _ _ _ us hl => match us, hl with | [_, _, _, _], _ => rfl)
theorem f_9 (X : K.In h) (G : h.Ns mainGlobals mg) (c : He.SaysD fa fn K) (e : ex K = true) : FnsOk P w K mg base 10 fns_9 := by
  obtain ⟨fd, F⟩ := c.def_ 9 (d := dfn "is_integer" 13) (by kernel_rfl)
  exact FnsOk.cons (f_8 X G c e) (def_ok (n := 1) (k := 9) F (scB_ok s_9) rfl c_9 (f_8 X G c e) (conOk X G c e) (bltOk X G c)) (Nat.le_refl _) (He.glo_ok X G (c.fact 9 (f := .glo "is_integer") (by kernel_rfl))) F.kp (F.bindsN (ps := ["value"]) fun _ _ _ _ _ _ us hl => match us, hl with | [_], _ => rfl)
theorem f_10 (X : K.In h) (G : h.Ns mainGlobals mg) (c : He.SaysD fa fn K) (e : ex K = true) : FnsOk P w K mg base 11 fns_10 := by
  obtain ⟨fd, F⟩ := c.def_ 10 (d := dfn "is_at_least" 14) (by kernel_rfl)
  exact FnsOk.cons (f_9 X G c e) (def_ok (n := 2) (k := 10) F (scB_ok s_10) rfl c_10 (f_9 X G c e) (conOk X G c e) (bltOk X G c)) (Nat.le_refl _) (He.glo_ok X G (c.fact 10 (f := .glo "is_at_least") (by kernel_rfl))) F.kp (F.bindsN (ps := ["value", "low"]) fun _ _ _ _ _ _ us hl => match us, hl with | [_, _], _ => rfl)
theorem f_11 (X : K.In h) (G : h.Ns mainGlobals mg) (c : He.SaysD fa fn K) (e : ex K = true) : FnsOk P w K mg base 12 fns_11 := by
  obtain ⟨fd, F⟩ := c.def_ 11 (d := dfn "is_bundle" 16) (by kernel_rfl)
  exact FnsOk.cons (f_10 X G c e) (def_ok (n := 2) (k := 11) F (scB_ok s_11) rfl c_11 (f_10 X G c e) (conOk X G c e) (bltOk X G c)) (Nat.le_refl _) (He.glo_ok X G (c.fact 11 (f := .glo "is_bundle") (by kernel_rfl))) F.kp (F.bindsN (ps := ["value", "many"]) fun _ _ _ _ _ _ us hl => match us, hl with | [_, _], _ => rfl)
theorem f_12 (X : K.In h) (G : h.Ns mainGlobals mg) (c : He.SaysD fa fn K) (e : ex K = true) : FnsOk P w K mg base 13 fns_12 := by
  obtain ⟨fd, F⟩ := c.def_ 12 (d := dfn "require_counts" 20) (by kernel_rfl)
  exact FnsOk.cons (f_11 X G c e) (def_ok (n := 1) (k := 12) F (scB_ok s_12) rfl c_12 (f_11 X G c e) (conOk X G c e) (bltOk X G c)) (Nat.le_refl _) (He.glo_ok X G (c.fact 12 (f := .glo "require_counts") (by kernel_rfl))) F.kp (F.bindsN (ps := ["counts"]) fun _ _ _ _ _ _ us hl => match us, hl with | [_], _ => rfl)
theorem f_13 (X : K.In h) (G : h.Ns mainGlobals mg) (c : He.SaysD fa fn K) (e : ex K = true) : FnsOk P w K mg base 14 fns_13 := by
  obtain ⟨fd, F⟩ := c.def_ 13 (d := dfn "is_between" 15) (by kernel_rfl)
  exact FnsOk.cons (f_12 X G c e) (def_ok (n := 3) (k := 13) F (scB_ok s_13) rfl c_13 (f_12 X G c e) (conOk X G c e) (bltOk X G c)) (Nat.le_refl _) (He.glo_ok X G (c.fact 13 (f := .glo "is_between") (by kernel_rfl))) F.kp (F.bindsN (ps := ["value", "low", "high"]) fun _ _ _ _ _ _ us hl => match us, hl with | [_, _, _], _ => rfl)
theorem f_14 (X : K.In h) (G : h.Ns mainGlobals mg) (c : He.SaysD fa fn K) (e : ex K = true) : FnsOk P w K mg base 15 fns_14 := by
  obtain ⟨fd, F⟩ := c.def_ 14 (d := dfn "is_list" 17) (by kernel_rfl)
  exact FnsOk.cons (f_13 X G c e) (def_ok (n := 2) (k := 14) F (scB_ok s_14) rfl c_14 (f_13 X G c e) (conOk X G c e) (bltOk X G c)) (Nat.le_refl _) (He.glo_ok X G (c.fact 14 (f := .glo "is_list") (by kernel_rfl))) F.kp (F.bindsN (ps := ["value", "many"]) fun _ _ _ _ _ _ us hl => match us, hl with | [_, _], _ => rfl)
theorem f_15 (X : K.In h) (G : h.Ns mainGlobals mg) (c : He.SaysD fa fn K) (e : ex K = true) : FnsOk P w K mg base 16 fns_15 := by
  obtain ⟨fd, F⟩ := c.def_ 15 (d := dfn "require_list" 21) (by kernel_rfl)
  exact FnsOk.cons (f_14 X G c e) (def_ok (n := 2) (k := 15) F (scB_ok s_15) rfl c_15 (f_14 X G c e) (conOk X G c e) (bltOk X G c)) (Nat.le_refl _) (He.glo_ok X G (c.fact 15 (f := .glo "require_list") (by kernel_rfl))) F.kp (F.bindsN (ps := ["ranking", "many"]) fun _ _ _ _ _ _ us hl => match us, hl with | [_, _], _ => rfl)
theorem f_16 (X : K.In h) (G : h.Ns mainGlobals mg) (c : He.SaysD fa fn K) (e : ex K = true) : FnsOk P w K mg base 17 fns_16 := by
  obtain ⟨fd, F⟩ := c.def_ 16 (d := dfn "is_turns" 18) (by kernel_rfl)
  exact FnsOk.cons (f_15 X G c e) (def_ok (n := 1) (k := 16) F (scB_ok s_16) rfl c_16 (f_15 X G c e) (conOk X G c e) (bltOk X G c)) (Nat.le_refl _) (He.glo_ok X G (c.fact 16 (f := .glo "is_turns") (by kernel_rfl))) F.kp (F.bindsN (ps := ["value"]) fun _ _ _ _ _ _ us hl => match us, hl with | [_], _ => rfl)
theorem f_17 (X : K.In h) (G : h.Ns mainGlobals mg) (c : He.SaysD fa fn K) (e : ex K = true) : FnsOk P w K mg base 18 fns_17 := by
  obtain ⟨fd, F⟩ := c.def_ 17 (d := dfn "is_block" 19) (by kernel_rfl)
  exact FnsOk.cons (f_16 X G c e) (def_ok (n := 1) (k := 17) F (scB_ok s_17) rfl c_17 (f_16 X G c e) (conOk X G c e) (bltOk X G c)) (Nat.le_refl _) (He.glo_ok X G (c.fact 17 (f := .glo "is_block") (by kernel_rfl))) F.kp (F.bindsN (ps := ["value"]) fun _ _ _ _ _ _ us hl => match us, hl with | [_], _ => rfl)
theorem f_18 (X : K.In h) (G : h.Ns mainGlobals mg) (c : He.SaysD fa fn K) (e : ex K = true) : FnsOk P w K mg base 19 fns_18 := by
  obtain ⟨fd, F⟩ := c.def_ 18 (d := dfn "require_sequence" 22) (by kernel_rfl)
  exact FnsOk.cons (f_17 X G c e) (def_ok (n := 1) (k := 18) F (scB_ok s_18) rfl c_18 (f_17 X G c e) (conOk X G c e) (bltOk X G c)) (Nat.le_refl _) (He.glo_ok X G (c.fact 18 (f := .glo "require_sequence") (by kernel_rfl))) F.kp (F.bindsN (ps := ["sequence"]) fun _ _ _ _ _ _ us hl => match us, hl with | [_], _ => rfl)
theorem f_19 (X : K.In h) (G : h.Ns mainGlobals mg) (c : He.SaysD fa fn K) (e : ex K = true) : FnsOk P w K mg base 20 fns_19 := by
  obtain ⟨fd, F⟩ := c.def_ 19 (d := dfn "require_player" 23) (by kernel_rfl)
  exact FnsOk.cons (f_18 X G c e) (def_ok (n := 1) (k := 19) F (scB_ok s_19) rfl c_19 (f_18 X G c e) (conOk X G c e) (bltOk X G c)) (Nat.le_refl _) (He.glo_ok X G (c.fact 19 (f := .glo "require_player") (by kernel_rfl))) F.kp (F.bindsN (ps := ["player"]) fun _ _ _ _ _ _ us hl => match us, hl with | [_], _ => rfl)
theorem f_20 (X : K.In h) (G : h.Ns mainGlobals mg) (c : He.SaysD fa fn K) (e : ex K = true) : FnsOk P w K mg base 21 fns_20 := by
  obtain ⟨fd, F⟩ := c.def_ 20 (d := dfn "require_side" 30) (by kernel_rfl)
  exact FnsOk.cons (f_19 X G c e) (def_ok (n := 4) (k := 20) F (scB_ok s_20) rfl c_20 (f_19 X G c e) (conOk X G c e) (bltOk X G c)) (Nat.le_refl _) (He.glo_ok X G (c.fact 20 (f := .glo "require_side") (by kernel_rfl))) F.kp (F.bindsN (ps := ["counts", "ranking", "sequence", "player"]) fun _ _ _ _ _ _ us hl => match us, hl with | [_, _, _, _], _ => rfl)
theorem f_21 (X : K.In h) (G : h.Ns mainGlobals mg) (c : He.SaysD fa fn K) (e : ex K = true) : FnsOk P w K mg base 22 fns_21 := by
  obtain ⟨fd, F⟩ := c.def_ 21 (d := dfn "picks_of" 24) (by kernel_rfl)
  exact FnsOk.cons (f_20 X G c e) (def_ok (n := 1) (k := 21) F (scB_ok s_21) rfl c_21 (f_20 X G c e) (conOk X G c e) (bltOk X G c)) (Nat.le_refl _) (He.glo_ok X G (c.fact 21 (f := .glo "picks_of") (by kernel_rfl))) F.kp (F.bindsN (ps := ["sequence"]) fun _ _ _ _ _ _ us hl => match us, hl with | [_], _ => rfl)
theorem f_22 (X : K.In h) (G : h.Ns mainGlobals mg) (c : He.SaysD fa fn K) (e : ex K = true) : FnsOk P w K mg base 23 fns_22 := by
  obtain ⟨fd, F⟩ := c.def_ 22 (d := dfn "require_fits" 25) (by kernel_rfl)
  exact FnsOk.cons (f_21 X G c e) (def_ok (n := 2) (k := 22) F (scB_ok s_22) rfl c_22 (f_21 X G c e) (conOk X G c e) (bltOk X G c)) (Nat.le_refl _) (He.glo_ok X G (c.fact 22 (f := .glo "require_fits") (by kernel_rfl))) F.kp (F.bindsN (ps := ["counts", "sequence"]) fun _ _ _ _ _ _ us hl => match us, hl with | [_, _], _ => rfl)
theorem f_23 (X : K.In h) (G : h.Ns mainGlobals mg) (c : He.SaysD fa fn K) (e : ex K = true) : FnsOk P w K mg base 24 fns_23 := by
  obtain ⟨fd, F⟩ := c.def_ 23 (d := dfn "count_turns" 28) (by kernel_rfl)
  exact FnsOk.cons (f_22 X G c e) (def_ok (n := 3) (k := 23) F (scB_ok s_23) rfl c_23 (f_22 X G c e) (conOk X G c e) (bltOk X G c)) (Nat.le_refl _) (He.glo_ok X G (c.fact 23 (f := .glo "count_turns") (by kernel_rfl))) F.kp (F.bindsN (ps := ["sequence", "player", "picks"]) fun _ _ _ _ _ _ us hl => match us, hl with | [_, _, _], _ => rfl)
theorem f_24 (X : K.In h) (G : h.Ns mainGlobals mg) (c : He.SaysD fa fn K) (e : ex K = true) : FnsOk P w K mg base 25 fns_24 := by
  obtain ⟨fd, F⟩ := c.def_ 24 (d := dfn "prefix_sums" 26) (by kernel_rfl)
  exact FnsOk.cons (f_23 X G c e) (def_ok (n := 2) (k := 24) F (scB_ok s_24) rfl c_24 (f_23 X G c e) (conOk X G c e) (bltOk X G c)) (Nat.le_refl _) (He.glo_ok X G (c.fact 24 (f := .glo "prefix_sums") (by kernel_rfl))) F.kp (F.bindsN (ps := ["counts", "ranking"]) fun _ _ _ _ _ _ us hl => match us, hl with | [_, _], _ => rfl)
theorem f_25 (X : K.In h) (G : h.Ns mainGlobals mg) (c : He.SaysD fa fn K) (e : ex K = true) : FnsOk P w K mg base 26 fns_25 := by
  obtain ⟨fd, F⟩ := c.def_ 25 (d := dfn "sure_of" 31) (by kernel_rfl)
  exact FnsOk.cons (f_24 X G c e) (def_ok (n := 4) (k := 25) F (scB_ok s_25) rfl c_25 (f_24 X G c e) (conOk X G c e) (bltOk X G c)) (Nat.le_refl _) (He.glo_ok X G (c.fact 25 (f := .glo "sure_of") (by kernel_rfl))) F.kp (F.bindsN (ps := ["counts", "ranking", "sequence", "player"]) fun _ _ _ _ _ _ us hl => match us, hl with | [_, _, _, _], _ => rfl)
theorem f_26 (X : K.In h) (G : h.Ns mainGlobals mg) (c : He.SaysD fa fn K) (e : ex K = true) : FnsOk P w K mg base 27 fns_26 := by
  obtain ⟨fd, F⟩ := c.def_ 26 (d := dfn "sure_counts" 32) (by kernel_rfl)
  exact FnsOk.cons (f_25 X G c e) (def_ok (n := 4) (k := 26) F (scB_ok s_26) rfl c_26 (f_25 X G c e) (conOk X G c e) (bltOk X G c)) (Nat.le_refl _) (He.glo_ok X G (c.fact 26 (f := .glo "sure_counts") (by kernel_rfl))) F.kp (F.bindsN (ps := ["counts", "ranking", "sequence", "player"]) fun _ _ _ _ _ _ us hl => match us, hl with | [_, _, _, _], _ => rfl)
theorem f_27 (X : K.In h) (G : h.Ns mainGlobals mg) (c : He.SaysD fa fn K) (e : ex K = true) : FnsOk P w K mg base 28 fns_27 := by
  obtain ⟨fd, F⟩ := c.def_ 27 (d := dfn "sure_bundle" 33) (by kernel_rfl)
  exact FnsOk.cons (f_26 X G c e) (def_ok (n := 4) (k := 27) F (scB_ok s_27) rfl c_27 (f_26 X G c e) (conOk X G c e) (bltOk X G c)) (Nat.le_refl _) (He.glo_ok X G (c.fact 27 (f := .glo "sure_bundle") (by kernel_rfl))) F.kp (F.bindsN (ps := ["counts", "ranking", "sequence", "player"]) fun _ _ _ _ _ _ us hl => match us, hl with | [_, _, _, _], _ => rfl)
theorem f_28 (X : K.In h) (G : h.Ns mainGlobals mg) (c : He.SaysD fa fn K) (e : ex K = true) : FnsOk P w K mg base 29 fns_28 := by
  obtain ⟨fd, F⟩ := c.def_ 28 (d := dfn "require_wanted" 34) (by kernel_rfl)
  exact FnsOk.cons (f_27 X G c e) (def_ok (n := 2) (k := 28) F (scB_ok s_28) rfl c_28 (f_27 X G c e) (conOk X G c e) (bltOk X G c)) (Nat.le_refl _) (He.glo_ok X G (c.fact 28 (f := .glo "require_wanted") (by kernel_rfl))) F.kp (F.bindsN (ps := ["wanted", "many"]) fun _ _ _ _ _ _ us hl => match us, hl with | [_, _], _ => rfl)
theorem f_29 (X : K.In h) (G : h.Ns mainGlobals mg) (c : He.SaysD fa fn K) (e : ex K = true) : FnsOk P w K mg base 30 fns_29 := by
  obtain ⟨fd, F⟩ := c.def_ 29 (d := dfn "is_sure" 35) (by kernel_rfl)
  exact FnsOk.cons (f_28 X G c e) (def_ok (n := 5) (k := 29) F (scB_ok s_29) rfl c_29 (f_28 X G c e) (conOk X G c e) (bltOk X G c)) (Nat.le_refl _) (He.glo_ok X G (c.fact 29 (f := .glo "is_sure") (by kernel_rfl))) F.kp (F.bindsN (ps := ["counts", "ranking", "sequence", "player", "wanted"]) fun _ _ _ _ _ _ us hl => match us, hl with | [_, _, _, _, _], _ => rfl)
theorem f_30 (X : K.In h) (G : h.Ns mainGlobals mg) (c : He.SaysD fa fn K) (e : ex K = true) : FnsOk P w K mg base 31 fns_30 := by
  obtain ⟨fd, F⟩ := c.def_ 30 (d := dfn "_law_wanted_right" 50) (by kernel_rfl)
  exact FnsOk.cons (f_29 X G c e) (def_ok (n := 5) (k := 30) F (scB_ok s_30) rfl c_30 (f_29 X G c e) (conOk X G c e) (bltOk X G c)) (Nat.le_refl _) (He.glo_ok X G (c.fact 30 (f := .glo "_law_wanted_right") (by kernel_rfl))) F.kp (F.bindsN (ps := ["_law_source_here", "_law_supply_here", "_law_ranking_here", "_law_blocks_here", "_law_who"]) fun _ _ _ _ _ _ us hl => match us, hl with | [_, _, _, _, _], _ => rfl)
theorem f_31 (X : K.In h) (G : h.Ns mainGlobals mg) (c : He.SaysD fa fn K) (e : ex K = true) : FnsOk P w K mg base 32 fns_31 := by
  obtain ⟨fd, F⟩ := c.def_ 31 (d := dfn "_law_right" 51) (by kernel_rfl)
  exact FnsOk.cons (f_30 X G c e) (def_ok (n := 5) (k := 31) F (scB_ok s_31) rfl c_31 (f_30 X G c e) (conOk X G c e) (bltOk X G c)) (Nat.le_refl _) (He.glo_ok X G (c.fact 31 (f := .glo "_law_right") (by kernel_rfl))) F.kp (F.bindsN (ps := ["_law_source_here", "_law_supply_here", "_law_ranking_here", "_law_blocks_here", "_law_who"]) fun _ _ _ _ _ _ us hl => match us, hl with | [_, _, _, _, _], _ => rfl)
theorem f_32 (X : K.In h) (G : h.Ns mainGlobals mg) (c : He.SaysD fa fn K) (e : ex K = true) : FnsOk P w K mg base 33 fns_32 := by
  obtain ⟨fd, F⟩ := c.def_ 32 (d := dfn "_law_supply" 43) (by kernel_rfl)
  exact FnsOk.cons (f_31 X G c e) (def_ok (n := 3) (k := 32) F (scB_ok s_32) rfl c_32 (f_31 X G c e) (conOk X G c e) (bltOk X G c)) (Nat.le_refl _) (He.glo_ok X G (c.fact 32 (f := .glo "_law_supply") (by kernel_rfl))) F.kp (F.bindsN (ps := ["_law_source_here", "_law_most", "_law_wide"]) fun _ _ _ _ _ _ us hl => match us, hl with | [_, _, _], _ => rfl)
theorem f_33 (X : K.In h) (G : h.Ns mainGlobals mg) (c : He.SaysD fa fn K) (e : ex K = true) : FnsOk P w K mg base 34 fns_33 := by
  obtain ⟨fd, F⟩ := c.def_ 33 (d := dfn "_law_blocks" 44) (by kernel_rfl)
  exact FnsOk.cons (f_32 X G c e) (def_ok (n := 3) (k := 33) F (scB_ok s_33) rfl c_33 (f_32 X G c e) (conOk X G c e) (bltOk X G c)) (Nat.le_refl _) (He.glo_ok X G (c.fact 33 (f := .glo "_law_blocks") (by kernel_rfl))) F.kp (F.bindsN (ps := ["_law_source_here", "_law_room", "_law_wide"]) fun _ _ _ _ _ _ us hl => match us, hl with | [_, _, _], _ => rfl)
theorem f_34 (X : K.In h) (G : h.Ns mainGlobals mg) (c : He.SaysD fa fn K) (e : ex K = true) : FnsOk P w K mg base 35 fns_34 := by
  obtain ⟨fd, F⟩ := c.def_ 34 (d := dfn "_law_any_game" 47) (by kernel_rfl)
  exact FnsOk.cons (f_33 X G c e) (def_ok (n := 1) (k := 34) F (scB_ok s_34) rfl c_34 (f_33 X G c e) (conOk X G c e) (bltOk X G c)) (Nat.le_refl _) (He.glo_ok X G (c.fact 34 (f := .glo "_law_any_game") (by kernel_rfl))) F.kp (F.bindsN (ps := ["_law_source_here"]) fun _ _ _ _ _ _ us hl => match us, hl with | [_], _ => rfl)
theorem f_35 (X : K.In h) (G : h.Ns mainGlobals mg) (c : He.SaysD fa fn K) (e : ex K = true) : FnsOk P w K mg base 36 fns_35 := by
  obtain ⟨fd, F⟩ := c.def_ 35 (d := dfn "_law_cell_at" 37) (by kernel_rfl)
  exact FnsOk.cons (f_34 X G c e) (def_ok (n := 2) (k := 35) F (scB_ok s_35) rfl c_35 (f_34 X G c e) (conOk X G c e) (bltOk X G c)) (Nat.le_refl _) (He.glo_ok X G (c.fact 35 (f := .glo "_law_cell_at") (by kernel_rfl))) F.kp (F.bindsN (ps := ["_law_script", "_law_k"]) fun _ _ _ _ _ _ us hl => match us, hl with | [_, _], _ => rfl)
theorem lawOk (X : K.In h) (G : h.Ns mainGlobals mg) (c : He.SaysD fa fn K) (e : ex K = true) {f : Addr} (hf : mg ("law" : Str) = some (.ref f)) : ∃ fd : FuncData, (∀ (s : Shared) (u : Value), BindsTo s fd ⟨[u], []⟩ [(("_law_script" : Str), u)]) ∧ ∀ base : Heap, FnOk P w K mg base CX0 37 f fd ["_law_script"] (spOf K 1 d_law) := by
  obtain ⟨fd, F⟩ := c.def_ 36 (d := dfn "law" 52) (by kernel_rfl)
  have z := hf.symm.trans (He.glo_ok X G (c.fact 36 (f := .glo "law") (by kernel_rfl)))
  cases z
  have b := FunD.bindsA (ps := ["_law_script"]) F fun _ _ _ _ _ _ us hl => match us, hl with | [_], _ => rfl
  exact ⟨fd, fun s v => b s [v] rfl, fun base => def_ok (n := 1) (k := 36) F (scB_ok s_36) rfl c_36 (f_35 X G c e) (conOk X G c e) (bltOk X G c)⟩
end
abbrev R : PySem.W.OpenRow := PySem.W.OpenLaw.row LW
abbrev hk : PySem.W.Hook := hookE 4 fa fn ex
def ob (s : PySem.W.SharedT) : He.AlD := obsE 4 fa fn ex (HandSHeadRun.getT s)
theorem ob_eq (s : PySem.W.SharedT) : ob s = hk.obs s.abs := obsE_eq (HandSHeadRun.getT_eq s)
def loose : List Str := (["PickError", "InvalidCounts", "InvalidList", "InvalidSequence", "InvalidPlayer", "InvalidBundle", "Mismatch", "PLAYERS", "MAX_KINDS", "MAX_BLOCKS", "MAX_TURNS", "is_integer", "is_at_least", "is_between", "is_bundle", "is_list", "is_turns", "is_block", "require_counts", "require_list", "require_sequence", "require_player", "picks_of", "require_fits", "prefix_sums", "count_turns", "require_side", "sure_of", "sure_counts", "sure_bundle"] : List Str) ++ (["require_wanted", "is_sure", "_law_cell_at", "_law_source", "_law_take", "_law_pick", "_law_shuffled", "_law_ranking", "_law_supply", "_law_blocks", "_law_sums", "_law_big_share", "_law_any_game", "_law_wide_game", "_law_sure", "_law_wanted_right", "_law_right"] : List Str)
theorem run (w : World) : HandSHeadRun.RunEq R (PySem.W.view R.prog [52]) hk ob 4000 loose w := by
  intro os
  kernel_rfl
end G30
open PySem PySem.W PySem.Calls PyProof.Rows
theorem G30.holds_of (hlaw : ∀ ns : List Int, ns.length ≤ 63 → (∀ z ∈ ns, PySem.Builtin.Int.intBits z ≤ 1048576) → T.goodR (G30.d_law [.ref 0] [.fz (ns.map T.D.int)]) fun r _ => r = .bl true) : PySem.Challenge.rw_turnpicks_k30_sure_numbers.Holds := by
  w_on; o_law
  refine HandSHeadRun.head_any (r := OpenLaw.row PySem.Challenge.rw_turnpicks_k30_sure_numbers) (q := view (OpenLaw.row PySem.Challenge.rw_turnpicks_k30_sure_numbers).prog [52]) (H := G30.hk) (ob := G30.ob) (M := 4000) (loose := G30.loose) (d := HandSHeadRun.topDef (OpenLaw.row PySem.Challenge.rw_turnpicks_k30_sure_numbers).prog 52) (kwd := []) G30.ob_eq
    (by kernel_rfl) (fun s => by kernel_rfl) G30.run (by kernel_rfl) (by kernel_rfl) (by kernel_rfl) (by rfl) (by first | assumption | decide +kernel) (by decide +kernel) ⟨rfl, rfl, rfl, rfl, rfl, by decide +kernel⟩ ?hw ?hc
  case hw => w_witness2
  case hc =>
    refine T.walkT (l := PySem.Challenge.rw_turnpicks_k30_sure_numbers) (n := 63) (k := 37) (x := "_law_script") (Fl := G30.d_law) rfl (by decide) (by kernel_rfl) ⟨rfl, by decide, by decide⟩ ?F hlaw
    intro w mg f h K KX c e G hmg0
    have hmg : mg ("law" : PySem.Str) = some (.ref f) := by
      have e : (HandSHeadRun.topDef (OpenLaw.row PySem.Challenge.rw_turnpicks_k30_sure_numbers).prog 52).name = ("law" : PySem.Str) := by kernel_rfl
      rw [← e]
      exact hmg0
    exact G30.lawOk KX G c e hmg

theorem PySem.Challenge.cw_turnpicks_k30_sure_numbers_holds : PySem.Challenge.rw_turnpicks_k30_sure_numbers.Holds := by exact G30.holds_of fun ns h1 h2 => G30.law_ok h1 fun z hz => T.bits_log (h2 z hz)
