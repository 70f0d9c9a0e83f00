import PyProof.Rows.All
import Wide.All
import OpenK.AllK
import Wide.FinOn
import HandS.ForMost
import HandS.Style
import HandS.Defaults
import HandS.Deep
import HandS.TupAny
import HandS.Gcd
import HandS.IsInst
import HandS.Zip
import HandS.Flow
import HandS.Wide
import HandS.Exc
import HandS.HeadHook4
import HandS.HeadEnd
import HandS.Head0
import HandS.Head1
import HandS.Head2
import HandS.Head3
import HandS.TryOnly
import HandS.ExcInit
import HandS.WordsExc
import HandS.RevTup
import HandS.Conv
import HandS.Walk
import HandS.ExcOwn
import HandS.ExcIs
import HandS.ExcField
import HandS.Zip0
import HandS.GenBody
import PyProof.Rows.ReprOcc
import PySem.Challenge.RW_roadwaves_k04_whole_tolls_and_their_sums
set_option Elab.async false
set_option linter.all false
set_option maxRecDepth 100000
section
/-! A small reckoning over plain data (PyData): the terms, what they are worth, the text that they stand for. -/
namespace Mp
open PySem PySem.Spec PyProof.Rows L2

abbrev D := PyData

/-! ### results -/
structure Exc where
  cls : Str
  arg : Option (Str × D)
inductive Res (ε α : Type) where
  | ok (a : α)
  | ex (x : Exc) (e : ε)
  | bad
namespace Res
variable {ε α β : Type}
@[reducible] def bind (r : Res ε α) (k : α → Res ε β) : Res ε β := match r with
  | .ok a => k a
  | .ex x e => .ex x e
  | .bad => .bad
/-- what is wanted of a value, of an exception -/
def wp (r : Res ε α) (P : α → Prop) (X : Exc → ε → Prop) : Prop := match r with
  | .ok a => P a
  | .ex x e => X x e
  | .bad => False
theorem wp_bind {r : Res ε α} {k : α → Res ε β} {P : β → Prop} {X : Exc → ε → Prop} : (r.bind k).wp P X ↔ r.wp (fun a => (k a).wp P X) X := by
  cases r <;> exact Iff.rfl
theorem wp_mono {r : Res ε α} {P P' : α → Prop} {X X' : Exc → ε → Prop} (h : r.wp P X) (hP : ∀ a, P a → P' a) (hX : ∀ x e, X x e → X' x e) : r.wp P' X' := by
  cases r with
  | ok a => exact hP a h
  | ex x e => exact hX x e h
  | bad => exact h
@[simp] theorem bind_ok (a : α) (k : α → Res ε β) : (Res.ok a : Res ε α).bind k = k a := rfl
@[simp] theorem bind_ex (x : Exc) (e : ε) (k : α → Res ε β) : (Res.ex x e : Res ε α).bind k = .ex x e := rfl
@[simp] theorem bind_bad (k : α → Res ε β) : (Res.bad : Res ε α).bind k = .bad := rfl
@[simp] theorem wp_ok (a : α) (P : α → Prop) (X : Exc → ε → Prop) : (Res.ok a : Res ε α).wp P X = P a := rfl
@[simp] theorem wp_ex (x : Exc) (e : ε) (P : α → Prop) (X : Exc → ε → Prop) : (Res.ex x e : Res ε α).wp P X = X x e := rfl
@[simp] theorem wp_bad (P : α → Prop) (X : Exc → ε → Prop) : (Res.bad : Res ε α).wp P X = False := rfl
/-- a choice that must be there -/
@[reducible] def get (o : Option α) : Res ε α := match o with
  | some a => .ok a
  | none => .bad
/-- a condition that must hold -/
@[reducible] def need (b : Bool) (r : Res ε α) : Res ε α := match b with
  | true => r
  | false => .bad
theorem wp_need {b : Bool} {r : Res ε α} {P : α → Prop} {X : Exc → ε → Prop} (h : (need b r).wp P X) : b = true ∧ r.wp P X := by
  cases b with
  | true => exact ⟨rfl, h⟩
  | false => exact h.elim
theorem wp_get {o : Option α} {P : α → Prop} {X : Exc → ε → Prop} (h : (get o : Res ε α).wp P X) : ∃ a, o = some a ∧ P a := by
  cases o with
  | some a => exact ⟨a, rfl, h⟩
  | none => exact h.elim
end Res

/-- a slot: nothing, a value that never changes, a list of its own -/
inductive Sv where
  | un
  | val (d : D)
  | own (ds : List D)
abbrev En := List Sv
/-- a result: a value, a new list that nobody else holds -/
inductive Rv where
  | val (d : D)
  | own (ds : List D)
def Rv.d : Rv → D
  | .val d => d
  | .own ds => .list ds
def Rv.sv : Rv → Sv
  | .val d => .val d
  | .own ds => .own ds
/-- an argument: a value, a slot's own list, a new list -/
inductive Av where
  | dat (d : D)
  | pk (i : Nat)
  | own (ds : List D)
/-- how a statement ends -/
inductive Fl where
  | nx | ret (r : Rv) | brk | cnt
abbrev R (α : Type) := Res En α
/-- what a def hands back: its result, what its in-and-out list holds then -/
abbrev Out := Res (List D) (Rv × List D)

/-! ### terms -/
inductive Bop where
  | add | sub | mul | fdiv | mod | pow
inductive Cop where
  | eq | ne | lt | le | gt | ge | is | isn | in_ | nin
inductive Bi where
  | len | abs | int | min2 | max2 | tuple | list | divmod | repr | all | any | sum | gcd | bool
/-- a type of isinstance, or some -/
inductive Tn where
  | int | bool | tuple | list | str | dict
def Tn.name : Tn → String
  | .int => "int"
  | .bool => "bool"
  | .tuple => "tuple"
  | .list => "list"
  | .str => "str"
  | .dict => "dict"
inductive Ty where
  | one (p : Pos) (n : Tn)
  | many (p : Pos) (k : Nat) (ns : List (Pos × Tn))
/-- further readings of data: xs[::-1] -/
inductive Ext where
  | rev (p p2 p3 p4 : Pos) (k : Nat)
  | dct0 (p : Pos)
  | dct1 (p : Pos) (kk : Nat) (pk : Pos) (s : Str) (vk : Nat) (pv : Pos) (i : Int)
  | zipL (p pl p2 pz : Pos)
mutual
inductive E where
  | var (p : Pos) (i : Nat)
  | frz (p : Pos) (i : Nat)
  | mv (p : Pos) (i : Nat)
  | pk (p : Pos) (i : Nat)
  | tmp (e : E)
  | int (p : Pos) (k : Nat) (i : Int)
  | bl (p : Pos) (k : Nat) (b : Bool)
  | non (p : Pos) (k : Nat)
  | str (p : Pos) (k : Nat) (s : Str)
  | glob (p : Pos) (g : Nat)
  | tup (p : Pos) (k : Nat) (es : Es)
  | lst (p : Pos) (es : Es)
  | bin (p : Pos) (o : Bop) (a b : E)
  | cmp (p : Pos) (o : Cop) (a b : E)
  | cmp2 (p : Pos) (o o' : Cop) (a b c : E)
  | neg (p : Pos) (a : E)
  | not (p : Pos) (a : E)
  | and (p : Pos) (es : Es)
  | or (p : Pos) (es : Es)
  | ite (p : Pos) (c a b : E)
  | ix (p : Pos) (a i : E)
  | sl (p p2 : Pos) (a lo hi : E)
  | no
  | bi (p pn : Pos) (f : Bi) (as : Es)
  | isi (p pn : Pos) (a : E) (t : Ty)
  | call (p pn : Pos) (f : Nat) (as : Es)
  | callk (p pn : Pos) (f : Nat) (as : Es) (ks : List (Str × Pos)) (vs : Es) (perm : List Nat)
  | comp (p : Pos) (own : List (Str × Nat)) (sc : Scope) (elt : E) (tg : Tg) (it : It) (cnd : E)
  | ext (x : Ext) (as : Es)
inductive Es where
  | nil
  | cons (e : E) (es : Es)
inductive It where
  | seq (e : E)
  | rng1 (p pn : Pos) (a : E)
  | rng2 (p pn : Pos) (a b : E)
  | zip (p pn : Pos) (a b : E)
  | enum (p pn : Pos) (a : E)
inductive Tg where
  | nm (p : Pos) (i : Nat)
  | nmo (p : Pos) (i : Nat)
  | tup (p : Pos) (k : Nat) (ts : Tgs)
  | sub (p pn : Pos) (i : Nat) (x : E)
inductive Tgs where
  | nil
  | cons (t : Tg) (ts : Tgs)
end
/-! what an except suite tells of its error -/
mutual
inductive XE where
  | str (p : Pos) (k : Nat) (s : Str)
  | var (p : Pos) (j : Nat)
  | fld (p pn : Pos) (f : Str)
  | isi (p pf pn pc : Pos) (c : Str) (ans : List (Str × Bool))
  | and (p : Pos) (xs : XEs)
  | lst (p : Pos) (xs : XEs)
  | tup (p : Pos) (k : Nat) (xs : XEs)
inductive XEs where
  | nil
  | cons (x : XE) (xs : XEs)
end
inductive XSt where
  | set (p q : Pos) (j : Nat) (x : XE)
  | ret (p : Pos) (x : XE)
/-- a clause: its class, which errors are under it, its name's slot, its suite -/
structure Hd where
  c : Str
  pn : Pos
  pe : Pos
  ans : List (Str × Bool)
  i : Nat
  su : List XSt
mutual
inductive Sm where
  | set (p : Pos) (t : Tg) (e : E)
  | par2 (p p1 p2 : Pos) (k1 k2 : Nat) (q1 q2 : Pos) (i j : Nat) (a b : E)
  | par3 (p p1 p2 : Pos) (k1 k2 : Nat) (q1 q2 q3 : Pos) (i j l : Nat) (a b c : E)
  | pv2 (p p1 p2 : Pos) (k1 k2 : Nat) (q1 q2 : Pos) (i j : Nat) (a b : E)
  | pv3 (p p1 p2 : Pos) (k1 k2 : Nat) (q1 q2 q3 : Pos) (i j l : Nat) (a b c : E)
  | ex (p : Pos) (e : E)
  | app (p pc pa pn : Pos) (i : Nat) (e : E)
  | ins (p pc pa pn : Pos) (i : Nat) (k e : E)
  | ifs (p : Pos) (c : E) (a b : Sms)
  | whl (p : Pos) (c : E) (b : Sms)
  | fors (p : Pos) (t : Tg) (it : It) (b : Sms)
  | ret (p : Pos) (e : E)
  | brk (p : Pos)
  | cnt (p : Pos)
  | pass (p : Pos)
  | nev (s : Stmt)
  | rse (p p2 pn : Pos) (c : Str)
  | tr (p : Pos) (b : Sms) (hs : List Hd)
inductive Sms where
  | nil
  | cons (s : Sm) (ss : Sms)
end

/-! ### what the operations are worth -/
def mulOk (i j : Int) : Bool := decide (i.natAbs.log2 + j.natAbs.log2 < 134000000)
def ixn (n : Nat) (i : Int) : Option Nat := L2.ixN n i
def ixD (ds : List D) (i : Int) : Option D := (L2.ixN ds.length i).bind fun j => ds[j]?
def cutD (ds : List D) (lo hi : Option Int) : List D := (ds.drop (HT.sIx ds.length 0 lo)).take (HT.sIx ds.length ds.length hi - HT.sIx ds.length 0 lo)
def okLen (n : Nat) : Bool := decide (n ≤ sizeLine)
/-- == of data: with an empty list or tuple at once -/
def eqD (d e : D) : Option Bool := match d, e with
  | .list xs, .list [] => some xs.isEmpty
  | d, e => match SeqAt.shaped d && SeqAt.shaped e with
    | true => some (PyData.eqv d e)
    | false => none
def inD (d : D) (ds : List D) : Option Bool := match SeqAt.shaped d && SeqAt.shaped (.list ds) with
  | true => some (ds.any fun z => PyData.eqv z d)
  | false => none
/-- a condition -/
def ned {α : Type} (b : Bool) (x : α) : Option α := match b with
  | true => some x
  | false => none
theorem ned_some {α : Type} {b : Bool} {x y : α} (h : ned b x = some y) : b = true ∧ x = y := by
  cases b with
  | true => exact ⟨rfl, Option.some.inj h⟩
  | false => cases h
def binD (o : Bop) (a b : D) : Option Rv := match o, a, b with
  | .add, .int i, .int j => some (.val (.int (i + j)))
  | .add, .list xs, .list ys => ned (okLen (xs.length + ys.length)) (.own (xs ++ ys))
  | .add, .tuple xs, .tuple ys => ned (okLen (xs.length + ys.length)) (.val (.tuple (xs ++ ys)))
  | .sub, .int i, .int j => some (.val (.int (i - j)))
  | .mul, .int i, .int j => ned (mulOk i j) (.val (.int (i * j)))
  | .mul, .list xs, .int k => ned (decide (0 ≤ k ∧ k ≤ 1000 ∧ xs.length ≤ 1000)) (.own (List.replicate k.toNat xs).flatten)
  | .fdiv, .int i, .int j => ned (decide (j ≠ 0) && !(Builtin.divisionGoesByPylong i j)) (.val (.int (i.fdiv j)))
  | .mod, .int i, .int j => ned (decide (j ≠ 0)) (.val (.int (i.fmod j)))
  | .pow, .int i, .int j => ned (decide (0 ≤ j ∧ j ≤ 1000000 ∧ i.natAbs < 2 ^ 64)) (.val (.int (i ^ j.toNat)))
  | _, _, _ => none
def cmpD (o : Cop) (a b : D) : Option Bool := match o with
  | .eq => (eqD a b)
  | .ne => ((eqD a b).map fun c => !c)
  | .lt => (match a, b with
    | .int i, .int j => some (decide (i < j))
    | _, _ => none)
  | .le => (match a, b with
    | .int i, .int j => some (decide (i ≤ j))
    | _, _ => none)
  | .gt => (match a, b with
    | .int i, .int j => some (decide (j < i))
    | _, _ => none)
  | .ge => (match a, b with
    | .int i, .int j => some (decide (j ≤ i))
    | _, _ => none)
  | .is => (match b with
    | .none => some (match a with | .none => true | _ => false)
    | _ => none)
  | .isn => (match b with
    | .none => some (match a with | .none => false | _ => true)
    | _ => none)
  | .in_ => (match b with
    | .list ds => (inD a ds)
    | _ => none)
  | .nin => (match b with
    | .list ds => ((inD a ds).map fun c => !c)
    | _ => none)
def truD : D → Option Bool
  | .none => some false
  | .bool b => some b
  | .int i => some (i != 0)
  | .list xs => some (!xs.isEmpty)
  | .tuple xs => some (!xs.isEmpty)
  | _ => none
def boolsD : List D → Option (List Bool)
  | [] => some []
  | .bool b :: r => (boolsD r).map (b :: ·)
  | _ => none
def intsD : List D → Option (List Int)
  | [] => some []
  | .int b :: r => (intsD r).map (b :: ·)
  | _ => none
def tyD : D → String
  | .none => "NoneType"
  | .bool _ => "bool"
  | .int _ => "int"
  | .str _ => "str"
  | .list _ => "list"
  | .tuple _ => "tuple"
  | .dict _ => "dict"
def isiD (d : D) : Ty → Option Bool
  | .one _ n => kitB (tyD d) n.name
  | .many _ _ ns => ns.foldr (fun q r => match kitB (tyD d) q.2.name with
    | some true => some true
    | some false => r
    | none => none) (some false)
def biD (f : Bi) (as : List D) : Option Rv := match f, as with
  | .len, [.list xs] => some (.val (.int xs.length))
  | .len, [.tuple xs] => some (.val (.int xs.length))
  | .abs, [.int i] => some (.val (.int (if i < 0 then -i else i)))
  | .int, [.int i] => some (.val (.int i))
  | .int, [.bool b] => some (.val (.int (if b then 1 else 0)))
  | .bool, [.int i] => some (.val (.bool (i != 0)))
  | .bool, [.bool b] => some (.val (.bool b))
  | .min2, [.int i, .int j] => some (.val (.int (if j < i then j else i)))
  | .max2, [.int i, .int j] => some (.val (.int (if j > i then j else i)))
  | .tuple, [.list xs] => some (.val (.tuple xs))
  | .tuple, [.tuple xs] => some (.val (.tuple xs))
  | .list, [.list xs] => some (.own xs)
  | .list, [.tuple xs] => some (.own xs)
  | .divmod, [.int i, .int j] => ned (decide (0 < j ∧ j < 1073741824)) (.val (.tuple [.int (i / j), .int (i % j)]))
  | .repr, [d] => ned (d.showable && decide (d.depth ≤ 100) && okLen d.shown.length) (.val (.str d.shown))
  | .all, [.list xs] => (match boolsD xs with
    | some bs => some (.val (.bool (bs.all id)))
    | none => none)
  | .any, [.list xs] => (match boolsD xs with
    | some bs => some (.val (.bool (bs.any id)))
    | none => none)
  | .sum, [.list xs] => (match intsD xs with
    | some ns => some (.val (.int ns.sum))
    | none => none)
  | .gcd, [.int i, .int j] => some (.val (.int ((Nat.gcd i.natAbs j.natAbs : Nat) : Int)))
  | _, _ => none

def zipD (xs ys : List D) : List D := List.zipWith (fun x y => .tuple [x, y]) xs ys
def extD (x : Ext) (as : List D) : Option Rv := match x, as with
  | .rev .., [.list xs] => some (.own xs.reverse)
  | .rev .., [.tuple xs] => some (.val (.tuple xs.reverse))
  | .dct0 _, [] => some (.val (.dict []))
  | .dct1 _ _ _ s _ _ i, [] => some (.val (.dict [(.str s, .int i)]))
  | .zipL .., [.tuple xs, .tuple ys] => if xs.length ≤ 1000000 then some (.own (zipD xs ys)) else none
  | _, _ => none

/-! ### loops -/
noncomputable section
variable {α : Type}
/-- the items, the slot whose own list they are -/
abbrev Src := List D × Option Nat
def lockOk (s : Src) (σ : En) : Prop := match s.2 with
  | none => True
  | some i => σ[i]? = some (.own s.1)
open Classical in
def forD (b : D → En → R (Fl × En)) (s : Src) : List D → En → R (Fl × En)
  | [], σ => if lockOk s σ then .ok (.nx, σ) else .bad
  | d :: r, σ => if lockOk s σ then (b d σ).bind fun q => (match q.1 with
    | .nx => forD b s r q.2
    | .cnt => forD b s r q.2
    | .brk => .ok (.nx, q.2)
    | .ret v => .ok (.ret v, q.2)) else .bad
open Classical in
/-- a comprehension's turns: b is what a turn adds, or nothing -/
def compD (b : D → En → R (Option D × En)) (s : Src) : List D → List D → En → R (List D × En)
  | [], acc, σ => if lockOk s σ then .ok (acc, σ) else .bad
  | d :: r, acc, σ => if lockOk s σ then (b d σ).bind fun q => (match q.1 with
    | none => compD b s r acc q.2
    | some e => compD b s r (acc ++ [e]) q.2) else .bad
def whileN (c : En → R (Bool × En)) (b : En → R (Fl × En)) : Nat → En → R (Fl × En)
  | 0, _ => .bad
  | n + 1, σ => (c σ).bind fun q => match q.1 with
    | false => .ok (.nx, q.2)
    | true => (b q.2).bind fun z => match z.1 with
      | .nx => whileN c b n z.2
      | .cnt => whileN c b n z.2
      | .brk => .ok (.nx, z.2)
      | .ret v => .ok (.ret v, z.2)
open Classical in
def whileD (c : En → R (Bool × En)) (b : En → R (Fl × En)) (σ : En) : R (Fl × En) :=
  if h : ∃ n, whileN c b n σ ≠ .bad then whileN c b (Classical.choose h) σ else .bad
theorem whileN_mono {c : En → R (Bool × En)} {b : En → R (Fl × En)} : ∀ (n : Nat) (σ : En) (k : Nat), whileN c b n σ ≠ .bad → whileN c b (n + k) σ = whileN c b n σ
  | 0, σ, k, h => absurd rfl h
  | n + 1, σ, k, h => by
    have e : n + 1 + k = (n + k) + 1 := by omega
    rw [e]
    unfold whileN at h ⊢
    cases hc : c σ with
    | bad => rfl
    | ex x e => rfl
    | ok q =>
      obtain ⟨t, σ1⟩ := q
      rw [hc] at h
      cases t with
      | false => rfl
      | true =>
        simp only [Res.bind] at h ⊢
        cases hb : b σ1 with
        | bad => rfl
        | ex x e => rfl
        | ok z =>
          obtain ⟨f, σ2⟩ := z
          rw [hb] at h
          cases f with
          | nx => exact whileN_mono n σ2 k h
          | cnt => exact whileN_mono n σ2 k h
          | brk => rfl
          | ret v => rfl
theorem whileN_eq {c : En → R (Bool × En)} {b : En → R (Fl × En)} {n m : Nat} {σ : En} (h : whileN c b n σ ≠ .bad) (h' : whileN c b m σ ≠ .bad) : whileN c b n σ = whileN c b m σ := by
  rcases Nat.le_total n m with q | q
  · obtain ⟨k, rfl⟩ := Nat.exists_eq_add_of_le q
    exact (whileN_mono n σ k h).symm
  · obtain ⟨k, rfl⟩ := Nat.exists_eq_add_of_le q
    exact whileN_mono m σ k h'
theorem whileD_of {c : En → R (Bool × En)} {b : En → R (Fl × En)} {n : Nat} {σ : En} (h : whileN c b n σ ≠ .bad) : whileD c b σ = whileN c b n σ := by
  have hx : ∃ n, whileN c b n σ ≠ .bad := ⟨n, h⟩
  unfold whileD
  rw [dif_pos hx]
  exact whileN_eq (Classical.choose_spec hx) h
theorem whileD_get {c : En → R (Bool × En)} {b : En → R (Fl × En)} {σ : En} (h : whileD c b σ ≠ .bad) : ∃ n, whileD c b σ = whileN c b n σ := by
  by_cases hx : ∃ n, whileN c b n σ ≠ .bad
  · obtain ⟨n, hn⟩ := hx
    exact ⟨n, whileD_of hn⟩
  · unfold whileD at h
    rw [dif_neg hx] at h
    exact absurd rfl h
/-- one turn -/
theorem whileD_eq (c : En → R (Bool × En)) (b : En → R (Fl × En)) (σ : En) : whileD c b σ = (c σ).bind fun q => match q.1 with
    | false => .ok (.nx, q.2)
    | true => (b q.2).bind fun z => match z.1 with
      | .nx => whileD c b z.2
      | .cnt => whileD c b z.2
      | .brk => .ok (.nx, z.2)
      | .ret v => .ok (.ret v, z.2) := by
  cases hc : c σ with
  | bad =>
    have : ∀ n, whileN c b n σ = .bad := fun n => by
      cases n with
      | zero => rfl
      | succ n => unfold whileN; rw [hc]
    unfold whileD
    rw [dif_neg (fun ⟨n, h⟩ => h (this n))]
    all_goals rfl
  | ex x e =>
    have h : whileN c b 1 σ = .ex x e := by unfold whileN; rw [hc]
    rw [whileD_of (n := 1) (by rw [h]; exact fun z => nomatch z), h]
    all_goals rfl
  | ok q =>
    obtain ⟨t, σ1⟩ := q
    cases t with
    | false =>
      have h : whileN c b 1 σ = .ok (.nx, σ1) := by unfold whileN; rw [hc]
      rw [whileD_of (n := 1) (by rw [h]; exact fun z => nomatch z), h]
      all_goals rfl
    | true =>
      have key : ∀ n, whileN c b (n + 1) σ = (b σ1).bind fun z => match z.1 with
          | .nx => whileN c b n z.2
          | .cnt => whileN c b n z.2
          | .brk => .ok (.nx, z.2)
          | .ret v => .ok (.ret v, z.2) := fun n => by
        conv => lhs; unfold whileN
        rw [hc]
        all_goals rfl
      cases hb : b σ1 with
      | bad =>
        have : ∀ n, whileN c b n σ = .bad := fun n => by
          cases n with
          | zero => rfl
          | succ n => rw [key n, hb]
        unfold whileD
        rw [dif_neg (fun ⟨n, h⟩ => h (this n))]
        show _ = Res.bind (b σ1) _
        rw [hb]
        all_goals rfl
      | ex x e =>
        have h : whileN c b 1 σ = .ex x e := by rw [key 0, hb]
        rw [whileD_of (n := 1) (by rw [h]; exact fun z => nomatch z), h]
        show _ = Res.bind (b σ1) _
        rw [hb]
        all_goals rfl
      | ok z =>
        obtain ⟨f, σ2⟩ := z
        have go : ∀ (hf : f = .nx ∨ f = .cnt), whileD c b σ = whileD c b σ2 := fun hf => by
          have k2 : ∀ n, whileN c b (n + 1) σ = whileN c b n σ2 := fun n => by
            rw [key n, hb]
            rcases hf with rfl | rfl <;> rfl
          by_cases hx : ∃ n, whileN c b n σ2 ≠ .bad
          · obtain ⟨n, hn⟩ := hx
            rw [whileD_of hn, whileD_of (n := n + 1) (by rw [k2 n]; exact hn), k2 n]
          · have h2 : ¬ ∃ n, whileN c b n σ ≠ .bad := fun ⟨n, hn⟩ => by
              cases n with
              | zero => exact hn rfl
              | succ n => exact hx ⟨n, by rw [← k2 n]; exact hn⟩
            unfold whileD
            rw [dif_neg hx, dif_neg h2]
        show _ = Res.bind (b σ1) _
        rw [hb]
        cases f with
        | nx => exact go (.inl rfl)
        | cnt => exact go (.inr rfl)
        | brk =>
          have h : whileN c b 1 σ = .ok (.nx, σ2) := by rw [key 0, hb]
          rw [whileD_of (n := 1) (by rw [h]; exact fun z => nomatch z), h]
          all_goals rfl
        | ret v =>
          have h : whileN c b 1 σ = .ok (.ret v, σ2) := by rw [key 0, hb]
          rw [whileD_of (n := 1) (by rw [h]; exact fun z => nomatch z), h]
          all_goals rfl
end
end Mp

end

section
namespace Mp
open PySem PySem.Spec PyProof.Rows L2

/-! ### what terms are worth -/
/-- io: which parameter of the running def is its in-and-out list; sio: the same of each def; cst: the module's constants; ar: each def's number of parameters; Φ: what the defs are worth -/
structure Sc where
  io : Option Nat
  sio : Nat → Option Nat
  cst : Nat → D
  Φ : Nat → List D → Out

def frzAt (io : Option Nat) (i : Nat) (σ : En) : R (Rv × En) := match σ[i]? with
  | some (.own ds) => .need (!(io == some i)) (.ok (.val (.list ds), σ.set i (.val (.list ds))))
  | some (.val d) => .ok (.val d, σ)
  | _ => .bad
def mvAt (io : Option Nat) (i : Nat) (σ : En) : R (Rv × En) := match σ[i]? with
  | some (.own ds) => .need (!(io == some i)) (.ok (.own ds, σ.set i .un))
  | _ => .bad
def varAt (i : Nat) (σ : En) : R (Rv × En) := match σ[i]? with
  | some (.val d) => .ok (.val d, σ)
  | _ => .bad
def pkAt (i : Nat) (σ : En) : R (Av × En) := match σ[i]? with
  | some (.own _) => .ok (.pk i, σ)
  | _ => .bad
/-- a read of an argument -/
def Av.see (σ : En) : Av → Option D
  | .dat d => some d
  | .pk i => (match σ[i]? with
    | some (.own ds) => some (.list ds)
    | _ => none)
  | .own ds => some (.list ds)
def seeAll (σ : En) : List Av → Option (List D)
  | [] => some []
  | a :: r => (a.see σ).bind fun d => (seeAll σ r).map (d :: ·)
/-- values that never change alone -/
def plainAll : List Av → Option (List D)
  | [] => some []
  | .dat d :: r => (plainAll r).map (d :: ·)
  | _ => none
/-- the call of a def: the in-and-out place p -/
def callD (S : Sc) (f : Nat) (avs : List Av) (σ : En) : R (Rv × En) := match S.sio f with
  | none => (match plainAll avs with
    | some ds => (match S.Φ f ds with
      | .ok (r, _) => .ok (r, σ)
      | .ex x _ => .ex x σ
      | .bad => .bad)
    | none => .bad)
  | some p => (match plainAll (avs.take p), avs[p]?, plainAll (avs.drop (p + 1)) with
    | some a, some (.pk i), some b => (match σ[i]? with
      | some (.own ds) => (match S.Φ f (a ++ .list ds :: b) with
        | .ok (r, ds') => .ok (r, σ.set i (.own ds'))
        | .ex x ds' => .ex x (σ.set i (.own ds'))
        | .bad => .bad)
      | _ => .bad)
    | some a, some (.own ds), some b => (match S.Φ f (a ++ .list ds :: b) with
      | .ok (r, _) => .ok (r, σ)
      | .ex x _ => .ex x σ
      | .bad => .bad)
    | _, _, _ => .bad)
def wipeE (σ : En) : List Nat → En
  | [] => σ
  | v :: vs => (wipeE σ vs).set v .un
/-- the slots vs as they were in σ₀ -/
def backE (σ₀ σ : En) : List Nat → En
  | [] => σ
  | v :: vs => (match σ₀[v]? with
    | some x => (backE σ₀ σ vs).set v x
    | none => backE σ₀ σ vs)
def rngD (lo hi : Int) : List D := (List.range (hi - lo).toNat).map fun k => .int (lo + (k : Nat))
def small62 (i : Int) : Bool := decide (-(2 ^ 62) ≤ i ∧ i < 2 ^ 62)
def enumFrom (k : Nat) : List D → List D
  | [] => []
  | d :: r => .tuple [.int k, d] :: enumFrom (k + 1) r
def optInt : Option D → Option (Option Int)
  | none => some none
  | some (.int i) => some (some i)
  | _ => none
def slD (d : D) (lo hi : Option Int) : Option Rv := match d with
  | .list ds => some (.own (cutD ds lo hi))
  | .tuple ds => some (.val (.tuple (cutD ds lo hi)))
  | _ => none
def permD {α : Type} (l : List α) : List Nat → Option (List α)
  | [] => some []
  | k :: r => (l[k]?).bind fun x => (permD l r).map (x :: ·)

/-- a term's worth: as a value, a test, an argument, a slice's part, a condition that may be left out -/
structure Ev where
  v : En → R (Rv × En)
  t : En → R (Bool × En)
  a : En → R (Av × En)
  o : En → R (Option Int × En)
  c : En → R (Bool × En)
def truR (q : D × En) : R (Bool × En) := (Res.get (truD q.1)).bind fun b => .ok (b, q.2)
def noV {α : Type} : En → R α := fun _ => .bad
def Ev.ofT (v : En → R (Rv × En)) (t : En → R (Bool × En)) : Ev where
  v := v
  t := t
  a := fun σ => (v σ).bind fun q => .ok (.dat q.1.d, q.2)
  o := fun σ => (v σ).bind fun q => match q.1 with
    | .val (.int i) => .ok (some i, q.2)
    | _ => .bad
  c := t
def Ev.of (v : En → R (Rv × En)) : Ev := .ofT v fun σ => (v σ).bind fun q => truR (q.1.d, q.2)
/-- a value that never changes -/
def Ev.d (e : Ev) (σ : En) : R (D × En) := (e.v σ).bind fun q => .ok (q.1.d, q.2)
def lit (d : D) : Ev := .of fun σ => .ok (.val d, σ)
def dsOf : List Ev → En → R (List D × En)
  | [], σ => .ok ([], σ)
  | e :: es, σ => (e.d σ).bind fun q => (dsOf es q.2).bind fun z => .ok (q.1 :: z.1, z.2)
def avsOf : List Ev → En → R (List Av × En)
  | [], σ => .ok ([], σ)
  | e :: es, σ => (e.a σ).bind fun q => (avsOf es q.2).bind fun z => .ok (q.1 :: z.1, z.2)
def andV : List Ev → En → R (Rv × En)
  | [], _ => .bad
  | [e], σ => e.v σ
  | e :: es, σ => (e.d σ).bind fun q => (Res.get (truD q.1)).bind fun b => match b with
    | true => andV es q.2
    | false => .ok (.val q.1, q.2)
def orV : List Ev → En → R (Rv × En)
  | [], _ => .bad
  | [e], σ => e.v σ
  | e :: es, σ => (e.d σ).bind fun q => (Res.get (truD q.1)).bind fun b => match b with
    | true => .ok (.val q.1, q.2)
    | false => orV es q.2
def andT : List Ev → En → R (Bool × En)
  | [], σ => .ok (true, σ)
  | e :: es, σ => (e.t σ).bind fun q => match q.1 with
    | true => andT es q.2
    | false => .ok (false, q.2)
def orT : List Ev → En → R (Bool × En)
  | [], σ => .ok (false, σ)
  | e :: es, σ => (e.t σ).bind fun q => match q.1 with
    | true => .ok (true, q.2)
    | false => orT es q.2
def opD {α : Type} (f : D → D → Option α) (a b : Ev) (σ : En) : R (α × En) := (a.a σ).bind fun p => (b.a p.2).bind fun q => (Res.get (p.1.see q.2)).bind fun x => (Res.get (q.1.see q.2)).bind fun y => (Res.get (f x y)).bind fun r => .ok (r, q.2)
def cmp2D (o o' : Cop) (a b c : Ev) (σ : En) : R (Bool × En) := (a.d σ).bind fun p => (b.d p.2).bind fun q => (Res.get (cmpD o p.1 q.1)).bind fun r => match r with
  | false => .ok (false, q.2)
  | true => (c.d q.2).bind fun z => (Res.get (cmpD o' q.1 z.1)).bind fun r => .ok (r, z.2)
def ixV (a i : Ev) (σ : En) : R (Rv × En) := (a.a σ).bind fun p => (i.v p.2).bind fun q => (Res.get (p.1.see q.2)).bind fun d => match q.1 with
  | .val (.int k) => (match d with
    | .list ds => (Res.get (ixD ds k)).bind fun x => .ok (.val x, q.2)
    | .tuple ds => (Res.get (ixD ds k)).bind fun x => .ok (.val x, q.2)
    | _ => .bad)
  | _ => .bad
def slV (a lo hi : Ev) (σ : En) : R (Rv × En) := (a.a σ).bind fun p => (lo.o p.2).bind fun q => (hi.o q.2).bind fun z => (Res.get (p.1.see z.2)).bind fun d => (Res.get (slD d q.1 z.1)).bind fun r => .ok (r, z.2)
def biV (f : Bi) (as : List Ev) (σ : En) : R (Rv × En) := (avsOf as σ).bind fun q => (Res.get (seeAll q.2 q.1)).bind fun ds => (Res.get (biD f ds)).bind fun r => .ok (r, q.2)
def extV (x : Ext) (as : List Ev) (σ : En) : R (Rv × En) := (avsOf as σ).bind fun q => (Res.get (seeAll q.2 q.1)).bind fun ds => (Res.get (extD x ds)).bind fun r => .ok (r, q.2)
def isiV (a : Ev) (t : Ty) (σ : En) : R (Rv × En) := (a.a σ).bind fun q => (Res.get (q.1.see q.2)).bind fun d => (Res.get (isiD d t)).bind fun b => .ok (.val (.bool b), q.2)
def negV (a : Ev) (σ : En) : R (Rv × En) := (a.v σ).bind fun q => match q.1 with
  | .val (.int i) => .ok (.val (.int (-i)), q.2)
  | _ => .bad
/-- what may raise is not for it -/
def noEx {α : Type} : R α → R α
  | .ok a => .ok a
  | .ex _ _ => .bad
  | .bad => .bad
noncomputable section
def turnD (own : List Nat) (elt cnd : Ev) (tg : Rv → En → R En) (d : D) (σ : En) : R (Option D × En) := noEx ((tg (.val d) (wipeE σ own)).bind fun σ => (cnd.c σ).bind fun z => match z.1 with
    | true => (elt.d z.2).bind fun y => .ok (some y.1, y.2)
    | false => .ok (none, z.2))
def compV (own : List Nat) (elt cnd : Ev) (tg : Rv → En → R En) (it : En → R (Src × En)) (σ : En) : R (Rv × En) := (it σ).bind fun q =>
  .need (okLen q.1.1.length) ((compD (turnD own elt cnd tg) q.1 q.1.1 [] q.2).bind fun z => .ok (.own z.1, backE q.2 z.2 own))
def seqIt (e : Ev) (σ : En) : R (Src × En) := (e.a σ).bind fun q => match q.1 with
  | .dat (.list ds) => .ok ((ds, none), q.2)
  | .dat (.tuple ds) => .ok ((ds, none), q.2)
  | .pk i => (match q.2[i]? with
    | some (.own ds) => .ok ((ds, some i), q.2)
    | _ => .bad)
  | _ => .bad
def rng1It (a : Ev) (σ : En) : R (Src × En) := (a.d σ).bind fun q => match q.1 with
  | .int j => .need (small62 j) (.ok ((rngD 0 j, none), q.2))
  | _ => .bad
def rng2It (a b : Ev) (σ : En) : R (Src × En) := (a.d σ).bind fun q => (b.d q.2).bind fun z => match q.1, z.1 with
  | .int i, .int j => .need (small62 i && small62 j) (.ok ((rngD i j, none), z.2))
  | _, _ => .bad
def zipIt (a b : Ev) (σ : En) : R (Src × En) := (a.d σ).bind fun q => (b.d q.2).bind fun z => match q.1, z.1 with
  | .list xs, .list ys => .ok ((zipD xs ys, none), z.2)
  | .tuple xs, .tuple ys => .ok ((zipD xs ys, none), z.2)
  | _, _ => .bad
def enumIt (a : Ev) (σ : En) : R (Src × En) := (a.d σ).bind fun q => match q.1 with
  | .list xs => .ok ((enumFrom 0 xs, none), q.2)
  | _ => .bad
def nmTg (io : Option Nat) (i : Nat) (v : Rv) (σ : En) : R En := .need (!(io == some i) && decide (i < σ.length)) (.ok (σ.set i (.val v.d)))
def nmoTg (io : Option Nat) (i : Nat) (v : Rv) (σ : En) : R En := .need (!(io == some i) && decide (i < σ.length)) (.ok (σ.set i v.sv))
def subTg (i : Nat) (x : Ev) (v : Rv) (σ : En) : R En := (pkAt i σ).bind fun p => (noEx (x.v p.2)).bind fun q => match q.1, q.2[i]? with
  | .val (.int k), some (.own ds) => (match L2.ixN ds.length k with
    | some j => .ok (q.2.set i (.own (ds.set j v.d)))
    | none => .bad)
  | _, _ => .bad
def tupTg (ts : List D → En → R En) (v : Rv) (σ : En) : R En := match v with
  | .val (.tuple ds) => ts ds σ
  | _ => .bad
variable (S : Sc)
mutual
def evE : E → Ev
  | .var _ i => .of (varAt i)
  | .frz _ i => .of (frzAt S.io i)
  | .mv _ i => .of (mvAt S.io i)
  | .pk _ i => ⟨noV, fun σ => (pkAt i σ).bind fun q => (Res.get (q.1.see q.2)).bind fun d => truR (d, q.2), pkAt i, noV, noV⟩
  | .tmp e => ⟨noV, noV, fun σ => ((evE e).v σ).bind fun q => match q.1 with
      | .own ds => .ok (.own ds, q.2)
      | _ => .bad, noV, noV⟩
  | .int _ _ i => lit (.int i)
  | .bl _ _ b => lit (.bool b)
  | .non _ _ => lit .none
  | .str _ _ s => lit (.str s)
  | .glob _ g => lit (S.cst g)
  | .tup _ _ es => .of fun σ => (dsOf (evEs es) σ).bind fun q => .need (okLen q.1.length) (.ok (.val (.tuple q.1), q.2))
  | .lst _ es => .of fun σ => (dsOf (evEs es) σ).bind fun q => .need (okLen q.1.length) (.ok (.own q.1, q.2))
  | .bin _ o a b => .of (opD (binD o) (evE a) (evE b))
  | .cmp _ o a b => .of fun σ => (opD (cmpD o) (evE a) (evE b) σ).bind fun q => .ok (.val (.bool q.1), q.2)
  | .cmp2 _ o o' a b c => .of fun σ => (cmp2D o o' (evE a) (evE b) (evE c) σ).bind fun q => .ok (.val (.bool q.1), q.2)
  | .neg _ a => .of (negV (evE a))
  | .not _ a => .ofT (fun σ => ((evE a).d σ).bind fun q => (truR q).bind fun q => .ok (.val (.bool (!q.1)), q.2)) fun σ => ((evE a).t σ).bind fun q => .ok (!q.1, q.2)
  | .and _ es => .ofT (andV (evEs es)) (andT (evEs es))
  | .or _ es => .ofT (orV (evEs es)) (orT (evEs es))
  | .ite _ c a b => .ofT (fun σ => ((evE c).t σ).bind fun q => match q.1 with
      | true => (evE a).v q.2
      | false => (evE b).v q.2) fun σ => ((evE c).t σ).bind fun q => match q.1 with
      | true => (evE a).t q.2
      | false => (evE b).t q.2
  | .ix _ a i => .of (ixV (evE a) (evE i))
  | .sl _ _ a lo hi => .of (slV (evE a) (evE lo) (evE hi))
  | .no => ⟨noV, noV, noV, fun σ => .ok (none, σ), fun σ => .ok (true, σ)⟩
  | .bi _ _ f as => .of (biV f (evEs as))
  | .isi _ _ a t => .of (isiV (evE a) t)
  | .call _ _ f as => .of fun σ => (avsOf (evEs as) σ).bind fun q => callD S f q.1 q.2
  | .callk _ _ f as _ vs perm => .of fun σ => (avsOf (evEs as) σ).bind fun q => (avsOf (evEs vs) q.2).bind fun z => (Res.get (permD (q.1 ++ z.1) perm)).bind fun l => callD S f l z.2
  | .ext x as => .of (extV x (evEs as))
  | .comp _ own _ elt tg it cnd => .of (compV (own.map (·.2)) (evE elt) (evE cnd) (evTg tg) (evIt it))
def evEs : Es → List Ev
  | .nil => []
  | .cons e es => evE e :: evEs es
def evIt : It → En → R (Src × En)
  | .seq e => seqIt (evE e)
  | .rng1 _ _ a => rng1It (evE a)
  | .rng2 _ _ a b => rng2It (evE a) (evE b)
  | .zip _ _ a b => zipIt (evE a) (evE b)
  | .enum _ _ a => enumIt (evE a)
def evTg : Tg → Rv → En → R En
  | .nm _ i => nmTg S.io i
  | .nmo _ i => nmoTg S.io i
  | .tup _ _ ts => tupTg (evTgs ts)
  | .sub _ _ i x => subTg i (evE x)
def evTgs : Tgs → List D → En → R En
  | .nil => fun ds σ => (match ds with
    | [] => .ok σ
    | _ => .bad)
  | .cons t ts => fun ds σ => (match ds with
    | d :: ds => (evTg t (.val d) σ).bind fun σ => evTgs ts ds σ
    | [] => .bad)
end
def avSv : Av → Option Sv
  | .dat d => some (.val d)
  | .own ds => some (.own ds)
  | .pk _ => none
/-- values into slots, own lists among them -/
def pvPut (io : Option Nat) : List Nat → List Av → En → R (Fl × En)
  | [], [], σ => .ok (.nx, σ)
  | i :: is, a :: as, σ => (Res.get (avSv a)).bind fun s => .need (!(io == some i) && decide (i < σ.length)) (pvPut io is as (σ.set i s))
  | _, _, _ => .bad
/-- a list with one more at a place -/
def insL (ds : List D) (n : Int) (d : D) : Option (List D) := ned (okLen (ds.length + 1) && decide (0 ≤ n ∧ n ≤ ds.length)) (ds.take n.toNat ++ d :: ds.drop n.toNat)
def insX (l : List D) (o : Option Sv) : Option (List D) := match l with
  | [.int n, d] => (match o with
    | some (.own ds) => insL ds n d
    | _ => none)
  | _ => none
/-- the place of xs.insert(k, x) -/
def insIx (n : Nat) (k : Int) : Nat := if k < 0 then (k + n).toNat else min k.toNat n
mutual
def evX (x : Exc) (en : En) : XE → Option D
  | .str _ _ s => some (.str s)
  | .var _ j => (match en[j]? with
    | some (.val d) => some d
    | _ => none)
  | .fld _ _ f => (match x.arg with
    | some q => ned (decide (f = q.1)) q.2
    | none => none)
  | .isi _ _ _ _ _ ans => (match x.arg with
    | none => (ans.lookup x.cls).map .bool
    | some _ => none)
  | .and _ xs => (evXs x en xs).bind fun ds => (boolsD ds).map fun bs => .bool (bs.all id)
  | .lst _ xs => (evXs x en xs).bind fun ds => ned (okLen ds.length) (.list ds)
  | .tup _ _ xs => (evXs x en xs).bind fun ds => ned (okLen ds.length) (.tuple ds)
def evXs (x : Exc) (en : En) : XEs → Option (List D)
  | .nil => some []
  | .cons e es => (evX x en e).bind fun d => (evXs x en es).map (d :: ·)
end
/-- an except suite -/
def evXS (io : Option Nat) (x : Exc) : List XSt → En → R (Fl × En)
  | [], en => .ok (.nx, en)
  | .set _ _ j e :: r, en => (Res.get (evX x en e)).bind fun d => .need (!(io == some j) && decide (j < en.length)) (evXS io x r (en.set j (.val d)))
  | .ret _ e :: _, en => (Res.get (evX x en e)).bind fun d => .ok (.ret (.val d), en)
def plainAt (io : Option Nat) (en : En) (i : Nat) : Bool := !(io == some i) && (match en[i]? with
  | some (.own _) => false
  | some _ => true
  | none => false)
/-- the clauses of a try -/
def evH (io : Option Nat) : List Hd → Exc → En → R (Fl × En)
  | [], x, en => .ex x en
  | h :: r, x, en => match h.ans.lookup x.cls with
    | none => .bad
    | some false => evH io r x en
    | some true => .need (x.arg.isNone && plainAt io en h.i) ((evXS io x h.su (en.set h.i .un)).bind fun q => .ok (q.1, q.2.set h.i .un))
def caught {α : Type} (k : Exc → En → R α) : R α → R α
  | .ok a => .ok a
  | .ex x e => k x e
  | .bad => .bad
mutual
def evS : Sm → En → R (Fl × En)
  | .set _ t e => fun σ => ((evE S e).v σ).bind fun q => (evTg S t q.1 q.2).bind fun σ => .ok (.nx, σ)
  | .par2 _ _ _ _ _ _ _ i j a b => fun σ => ((evE S a).d σ).bind fun q => ((evE S b).d q.2).bind fun z =>
      .need (!(S.io == some i) && (!(S.io == some j) && decide (i < z.2.length ∧ j < z.2.length))) (.ok (.nx, (z.2.set i (.val q.1)).set j (.val z.1)))
  | .par3 _ _ _ _ _ _ _ _ i j l a b c => fun σ => ((evE S a).d σ).bind fun q => ((evE S b).d q.2).bind fun z => ((evE S c).d z.2).bind fun w =>
      .need (!(S.io == some i) && (!(S.io == some j) && (!(S.io == some l) && decide (i < w.2.length ∧ j < w.2.length ∧ l < w.2.length)))) (.ok (.nx, ((w.2.set i (.val q.1)).set j (.val z.1)).set l (.val w.1)))
  | .pv2 _ _ _ _ _ _ _ i j a b => fun σ => (avsOf [evE S a, evE S b] σ).bind fun q => pvPut S.io [i, j] q.1 q.2
  | .pv3 _ _ _ _ _ _ _ _ i j l a b c => fun σ => (avsOf [evE S a, evE S b, evE S c] σ).bind fun q => pvPut S.io [i, j, l] q.1 q.2
  | .ex _ e => fun σ => ((evE S e).v σ).bind fun q => .ok (.nx, q.2)
  | .app _ _ _ _ i e => fun σ => (pkAt i σ).bind fun p => ((evE S e).d p.2).bind fun q => match q.2[i]? with
    | some (.own ds) => .need (okLen (ds.length + 1)) (.ok (.nx, q.2.set i (.own (ds ++ [q.1]))))
    | _ => .bad
  | .ins _ _ _ _ i k e => fun σ => (pkAt i σ).bind fun p => (dsOf [evE S k, evE S e] p.2).bind fun q => (Res.get (insX q.1 q.2[i]?)).bind fun z => .ok (.nx, q.2.set i (.own z))
  | .ifs _ c a b => fun σ => ((evE S c).t σ).bind fun q => match q.1 with
    | true => evSs a q.2
    | false => evSs b q.2
  | .whl _ c b => whileD (evE S c).t (evSs b)
  | .fors _ t it b => fun σ => (evIt S it σ).bind fun q => forD (fun d σ => (evTg S t (.val d) σ).bind (evSs b)) q.1 q.1.1 q.2
  | .ret _ e => fun σ => ((evE S e).v σ).bind fun q => .ok (.ret q.1, q.2)
  | .brk _ => fun σ => .ok (.brk, σ)
  | .cnt _ => fun σ => .ok (.cnt, σ)
  | .pass _ => fun σ => .ok (.nx, σ)
  | .nev _ => fun _ => .bad
  | .rse _ _ _ c => fun σ => .ex ⟨c, none⟩ σ
  | .tr _ b hs => fun σ => caught (evH S.io hs) (evSs b σ)
def evSs : Sms → En → R (Fl × En)
  | .nil => fun σ => .ok (.nx, σ)
  | .cons s ss => fun σ => (evS s σ).bind fun q => match q.1 with
    | .nx => evSs ss q.2
    | f => .ok (f, q.2)
end
end

/-! ### defs -/
structure Fn where
  name : Str
  N : List Str
  np : Nat
  io : Option Nat
  body : Sms
noncomputable section
/-- the slots at a def's entry -/
def startE (n : Nat) (io : Option Nat) (ds : List D) : En :=
  let l := ds.map Sv.val ++ List.replicate (n - ds.length) .un
  match io with
  | none => l
  | some p => (match ds[p]? with
    | some (.list xs) => l.set p (.own xs)
    | _ => l)
def ioOut (io : Option Nat) (σ : En) : Option (List D) := match io with
  | none => some []
  | some p => (match σ[p]? with
    | some (.own xs) => some xs
    | _ => none)
def ioIn (io : Option Nat) (ds : List D) : Bool := match io with
  | none => true
  | some p => (match ds[p]? with
    | some (.list _) => true
    | _ => false)
/-- the end of a def's body -/
def outD (io : Option Nat) (r : R (Fl × En)) : Out := match r with
  | .ok (.ret v, σ) => (match ioOut io σ with
    | some l => .ok (v, l)
    | none => .bad)
  | .ok (.nx, σ) => (match ioOut io σ with
    | some l => .ok (.val .none, l)
    | none => .bad)
  | .ok _ => .bad
  | .ex x σ => (match ioOut io σ with
    | some l => .ex x l
    | none => .bad)
  | .bad => .bad
def fnSc (fs : List Fn) (cst : Nat → D) (io : Option Nat) (Φ : Nat → List D → Out) : Sc := ⟨io, fun g => (fs[g]?).bind (·.io), cst, Φ⟩
/-- what the def f is worth, calls at most n deep -/
def run (fs : List Fn) (cst : Nat → D) : Nat → Nat → List D → Out
  | 0, _, _ => .bad
  | n + 1, f, ds => match fs[f]? with
    | none => .bad
    | some F => .need (decide (ds.length = F.np) && ioIn F.io ds) (outD F.io (evSs (fnSc fs cst F.io (run fs cst n)) F.body (startE F.N.length F.io ds)))
end
end Mp

end

section
namespace Mp
open PySem PySem.Spec PyProof.Rows L2

/-! ### the text that terms stand for -/
def Bop.ast : Bop → Operator
  | .add => .Add
  | .sub => .Sub
  | .mul => .Mult
  | .fdiv => .FloorDiv
  | .mod => .Mod
  | .pow => .Pow
def Cop.ast : Cop → CmpOp
  | .eq => .Eq
  | .ne => .NotEq
  | .lt => .Lt
  | .le => .LtE
  | .gt => .Gt
  | .ge => .GtE
  | .is => .Is
  | .isn => .IsNot
  | .in_ => .In
  | .nin => .NotIn
def Bi.name : Bi → Str
  | .len => "len"
  | .abs => "abs"
  | .int => "int"
  | .min2 => "min"
  | .max2 => "max"
  | .tuple => "tuple"
  | .list => "list"
  | .divmod => "divmod"
  | .repr => "repr"
  | .all => "all"
  | .any => "any"
  | .sum => "sum"
  | .gcd => "gcd"
  | .bool => "bool"
/-- the names: of the defs, of the constants, of the slots -/
structure Nm where
  fn : Nat → Str
  cst : Nat → Str
  N : List Str
def Nm.slot (n : Nm) (i : Nat) : Str := n.N.getD i ""
def Ty.ast : Ty → Expr
  | .one p n => .Name (Str.ofString n.name) p
  | .many p k ns => .Tuple (ns.map fun q => .Name (Str.ofString q.2.name) q.1) k p
def optX : E → Expr → Option Expr
  | .no, _ => none
  | _, x => some x
def cndX : E → Expr → List Expr
  | .no, _ => []
  | _, x => [x]
def noX : Expr := .Constant .none 0 ⟨0, 0, 0, 0⟩
def Ext.ast : Ext → List Expr → Expr
  | .rev p p2 p3 p4 k, l => .Subscript (l.getD 0 noX) (.Slice none none (some (.UnaryOp .USub (.Constant (.int 1) k p4) p3)) p2) p
  | .dct0 p, _ => .Dict [] [] p
  | .dct1 p kk pk s vk pv i, _ => .Dict [some (.Constant (.str s) kk pk)] [.Constant (.int i) vk pv] p
  | .zipL p pl p2 pz, l => .Call (.Name "list" pl) [.Call (.Name "zip" pz) [l.getD 0 noX, l.getD 1 noX] [] p2] [] p
def Ext.ar : Ext → Nat
  | .rev .. => 1
  | .dct0 .. => 0
  | .dct1 .. => 0
  | .zipL .. => 2
/-- the built-in names that it uses -/
def Ext.gl : Ext → List Str
  | .zipL .. => ["list", "zip"]
  | _ => []
section
variable (n : Nm)
mutual
def astE : E → Expr
  | .var p i => .Name (n.slot i) p
  | .frz p i => .Name (n.slot i) p
  | .mv p i => .Name (n.slot i) p
  | .pk p i => .Name (n.slot i) p
  | .tmp e => astE e
  | .int p k i => .Constant (.int i) k p
  | .bl p k b => .Constant (.bool b) k p
  | .non p k => .Constant .none k p
  | .str p k s => .Constant (.str s) k p
  | .glob p g => .Name (n.cst g) p
  | .tup p k es => .Tuple (astEs es) k p
  | .lst p es => .List (astEs es) p
  | .bin p o a b => .BinOp (astE a) o.ast (astE b) p
  | .cmp p o a b => .Compare (astE a) [o.ast] [astE b] p
  | .cmp2 p o o' a b c => .Compare (astE a) [o.ast, o'.ast] [astE b, astE c] p
  | .neg p a => .UnaryOp .USub (astE a) p
  | .not p a => .UnaryOp .Not (astE a) p
  | .and p es => .BoolOp .And (astEs es) p
  | .or p es => .BoolOp .Or (astEs es) p
  | .ite p c a b => .IfExp (astE c) (astE a) (astE b) p
  | .ix p a i => .Subscript (astE a) (astE i) p
  | .sl p p2 a lo hi => .Subscript (astE a) (.Slice (optX lo (astE lo)) (optX hi (astE hi)) none p2) p
  | .no => .Constant .none 0 ⟨0, 0, 0, 0⟩
  | .bi p pn f as => .Call (.Name f.name pn) (astEs as) [] p
  | .isi p pn a t => .Call (.Name "isinstance" pn) [astE a, t.ast] [] p
  | .call p pn f as => .Call (.Name (n.fn f) pn) (astEs as) [] p
  | .callk p pn f as ks vs _ => .Call (.Name (n.fn f) pn) (astEs as) (astKs ks vs) p
  | .ext x as => x.ast (astEs as)
  | .comp p _ sc elt tg it cnd => .ListComp (astE elt) [⟨astTg tg, astIt it, cndX cnd (astE cnd), 0⟩] sc p
def astEs : Es → List Expr
  | .nil => []
  | .cons e es => astE e :: astEs es
def astKs : List (Str × Pos) → Es → List Keyword
  | [], _ => []
  | _, .nil => []
  | q :: ks, .cons e es => ⟨some q.1, astE e, q.2⟩ :: astKs ks es
def astIt : It → Expr
  | .seq e => astE e
  | .rng1 p pn a => .Call (.Name "range" pn) [astE a] [] p
  | .rng2 p pn a b => .Call (.Name "range" pn) [astE a, astE b] [] p
  | .zip p pn a b => .Call (.Name "zip" pn) [astE a, astE b] [] p
  | .enum p pn a => .Call (.Name "enumerate" pn) [astE a] [] p
def astTg : Tg → Expr
  | .nm p i => .Name (n.slot i) p
  | .nmo p i => .Name (n.slot i) p
  | .tup p k ts => .Tuple (astTgs ts) k p
  | .sub p pn i x => .Subscript (.Name (n.slot i) pn) (astE x) p
def astTgs : Tgs → List Expr
  | .nil => []
  | .cons t ts => astTg t :: astTgs ts
end
mutual
def XE.ast (i : Nat) : XE → Expr
  | .str p k s => .Constant (.str s) k p
  | .var p j => .Name (n.slot j) p
  | .fld p pn f => .Attribute (.Name (n.slot i) pn) f p
  | .isi p pf pn pc c _ => .Call (.Name "isinstance" pf) [.Name (n.slot i) pn, .Name c pc] [] p
  | .and p xs => .BoolOp .And (XEs.ast i xs) p
  | .lst p xs => .List (XEs.ast i xs) p
  | .tup p k xs => .Tuple (XEs.ast i xs) k p
def XEs.ast (i : Nat) : XEs → List Expr
  | .nil => []
  | .cons x xs => XE.ast i x :: XEs.ast i xs
end
def XEs.len : XEs → Nat
  | .nil => 0
  | .cons _ xs => xs.len + 1
def XSt.ast (i : Nat) : XSt → Stmt
  | .set p q j x => .Assign [.Name (n.slot j) q] (XE.ast n i x) p
  | .ret p x => .Return (some (XE.ast n i x)) p
def Hd.ast (h : Hd) : ExceptHandler := .ExceptHandler (some (.Name h.c h.pn)) (some (n.slot h.i)) (h.su.map (XSt.ast n h.i)) h.pe
mutual
def astS : Sm → Stmt
  | .set p t e => .Assign [astTg n t] (astE n e) p
  | .par2 p p1 p2 k1 k2 q1 q2 i j a b => .Assign [.Tuple [.Name (n.slot i) q1, .Name (n.slot j) q2] k1 p1] (.Tuple [astE n a, astE n b] k2 p2) p
  | .par3 p p1 p2 k1 k2 q1 q2 q3 i j l a b c => .Assign [.Tuple [.Name (n.slot i) q1, .Name (n.slot j) q2, .Name (n.slot l) q3] k1 p1] (.Tuple [astE n a, astE n b, astE n c] k2 p2) p
  | .pv2 p p1 p2 k1 k2 q1 q2 i j a b => .Assign [.Tuple [.Name (n.slot i) q1, .Name (n.slot j) q2] k1 p1] (.Tuple [astE n a, astE n b] k2 p2) p
  | .pv3 p p1 p2 k1 k2 q1 q2 q3 i j l a b c => .Assign [.Tuple [.Name (n.slot i) q1, .Name (n.slot j) q2, .Name (n.slot l) q3] k1 p1] (.Tuple [astE n a, astE n b, astE n c] k2 p2) p
  | .ex p e => .Expr (astE n e) p
  | .app p pc pa pn i e => .Expr (.Call (.Attribute (.Name (n.slot i) pn) "append" pa) [astE n e] [] pc) p
  | .ins p pc pa pn i k e => .Expr (.Call (.Attribute (.Name (n.slot i) pn) "insert" pa) [astE n k, astE n e] [] pc) p
  | .ifs p c a b => .If (astE n c) (astSs a) (astSs b) p
  | .whl p c b => .While (astE n c) (astSs b) [] p
  | .fors p t it b => .For (astTg n t) (astIt n it) (astSs b) [] p
  | .ret p e => .Return (some (astE n e)) p
  | .brk p => .Break p
  | .cnt p => .Continue p
  | .pass p => .Pass p
  | .nev s => s
  | .rse p p2 pn c => .Raise (some (.Call (.Name c pn) [] [] p2)) none p
  | .tr p b hs => .Try (astSs b) (hs.map (Hd.ast n)) [] [] p
def astSs : Sms → List Stmt
  | .nil => []
  | .cons s ss => astS s :: astSs ss
end

/-! ### what is looked at: names, places, shapes -/
def notDbg (x : Str) : Bool := !(x == ("__debug__" : Str)) && !(x == ("__classdict__" : Str))
def visB (sc : Scope) (x : Str) : Bool := notDbg x && (match sc.names.lookup x with
  | some .local => true
  | some .cell => true
  | some .free => true
  | _ => false)
def locB (sc : Scope) (x : Str) : Bool := notDbg x && (match sc.names.lookup x with
  | some .local => true
  | some .cell => true
  | _ => false)
def lclB (sc : Scope) (x : Str) : Bool := notDbg x && (match sc.names.lookup x with
  | some .local => true
  | _ => false)
def glB (sc : Scope) (x : Str) : Bool := notDbg x && (match sc.names.lookup x with
  | some .globalImplicit => true
  | _ => false)
/-- the slot i is there and its name is seen -/
def slotB (n : Nm) (sc : Scope) (i : Nat) : Bool := decide (i < n.N.length) && visB sc (n.slot i)
/-- an index that is no slice -/
def plainIx : E → Bool
  | .no => false
  | _ => true
/-- what the whole text has: nf defs, nc constants; np: each def's number of parameters; kb: the calls by keywords that are told of -/
structure Wh where
  nf : Nat
  nc : Nat
  np : Nat → Nat
  kb : List (Nat × Nat × List Str × List Nat)
  gcd : Bool
  ks : List Str
  k0 : List Str
  cl : List (Str × Str × Bool)
def Wh.okBi (w : Wh) : Bi → Bool
  | .gcd => w.gcd
  | _ => true
def Es.len : Es → Nat
  | .nil => 0
  | .cons _ es => es.len + 1
def tyB (sc : Scope) : Ty → Bool
  | .one _ n => glB sc (Str.ofString n.name)
  | .many _ _ ns => ns.all fun q => glB sc (Str.ofString q.2.name)
def Tgs.len : Tgs → Nat
  | .nil => 0
  | .cons _ ts => ts.len + 1
def isTup : Tg → Bool
  | .tup .. => true
  | _ => false
def isTupE : E → Bool
  | .tup .. => true
  | _ => false
def isComp : E → Bool
  | .comp .. => true
  | .tmp e => isComp e
  | _ => false
/-- the iterable's shape fits the target's (zip, enumerate: a written tuple) -/
def itTg : It → Tg → Bool
  | .zip .., .tup .. => true
  | .enum .., .tup .. => true
  | .zip .., _ => false
  | .enum .., _ => false
  | _, _ => true
/-- the own list that a comprehension walks is no name of its own -/
def lkB (own : List Nat) : It → Bool
  | .seq (.pk _ k) => !(own.contains k)
  | _ => true
/-- a target's slot, where they are told -/
def inB : Option (List Nat) → Nat → Bool
  | none, _ => true
  | some l, i => l.contains i
def tyN : Ty → Bool
  | .one .. => true
  | .many _ _ ns => decide (ns.length ≤ 64)
section
variable (w : Wh)
mutual
def chE (sc : Scope) : E → Bool
  | .var _ i => slotB n sc i
  | .frz _ i => slotB n sc i
  | .mv _ i => slotB n sc i
  | .pk _ i => slotB n sc i
  | .tmp e => chE sc e
  | .int .. => true
  | .bl .. => true
  | .non .. => true
  | .str .. => true
  | .glob _ g => decide (g < w.nc) && glB sc (n.cst g)
  | .tup _ _ es => chEs sc es
  | .lst _ es => chEs sc es
  | .bin _ _ a b => chE sc a && chE sc b
  | .cmp _ _ a b => chE sc a && chE sc b
  | .cmp2 _ _ _ a b c => chE sc a && (chE sc b && chE sc c)
  | .neg _ a => chE sc a
  | .not _ a => chE sc a
  | .and _ es => decide (2 ≤ es.len) && chEs sc es
  | .or _ es => decide (2 ≤ es.len) && chEs sc es
  | .ite _ c a b => chE sc c && (chE sc a && chE sc b)
  | .ix _ a i => chE sc a && (chE sc i && plainIx i)
  | .sl _ _ a lo hi => chE sc a && (chE sc lo && chE sc hi)
  | .no => true
  | .bi _ _ f as => glB sc f.name && (w.okBi f && (decide (1 ≤ as.len) && chEs sc as))
  | .isi _ _ a t => glB sc "isinstance" && (chE sc a && (tyB sc t && tyN t))
  | .call _ _ f as => decide (f < w.nf) && (glB sc (n.fn f) && (decide (1 ≤ as.len) && (decide (as.len = w.np f) && chEs sc as)))
  | .callk _ _ f as ks vs perm => decide (f < w.nf) && (glB sc (n.fn f) && (decide (ks.length = vs.len) && (decide ((f, as.len, ks.map (·.1), perm) ∈ w.kb) && (decide (perm.length = w.np f) && (chEs sc as && chEs sc vs)))))
  | .ext x as => decide (as.len = x.ar) && (x.gl.all (glB sc) && chEs sc as)
  | .comp _ own sc' elt tg it cnd => blkC n.N sc sc' own && (chIt sc it && (chTg (some (own.map (·.2))) sc' tg && (itTg it tg && (lkB (own.map (·.2)) it && (chE (relS sc' sc) cnd && chE (relS sc' sc) elt)))))
def chEs (sc : Scope) : Es → Bool
  | .nil => true
  | .cons e es => chE sc e && chEs sc es
def chIt (sc : Scope) : It → Bool
  | .seq e => chE sc e
  | .rng1 _ _ a => glB sc "range" && chE sc a
  | .rng2 _ _ a b => glB sc "range" && (chE sc a && chE sc b)
  | .zip _ _ a b => glB sc "zip" && (chE sc a && chE sc b)
  | .enum _ _ a => glB sc "enumerate" && chE sc a
/-- a comprehension's target: its own slots alone, no subscript -/
def chTg (own : Option (List Nat)) (sc : Scope) : Tg → Bool
  | .nm _ i => decide (i < n.N.length) && (locB sc (n.slot i) && inB own i)
  | .tup _ _ ts => chTgs own sc ts
  | .nmo .. => false
  | .sub .. => false
def chTgs (own : Option (List Nat)) (sc : Scope) : Tgs → Bool
  | .nil => true
  | .cons t ts => chTg own sc t && chTgs own sc ts
end
end
end
end Mp

end

section
namespace Mp
open PySem PySem.Spec PyProof.Rows L2

/-! ### data that stand in a heap -/
def keyD : Key → D
  | .inl i => .int i
  | .inr x => .str x
mutual
inductive Rp (K : PySem.W.Frag) (F : Hp) : V → D → Prop
  | non : Rp K F .non .none
  | bl (b : Bool) : Rp K F (.bl b) (.bool b)
  | int (i : Int) : Rp K F (.int i) (.int i)
  | str (x : Str) : Rp K F (.str x) (.str x)
  | lst {a : Addr} {xs : List V} {ds : List D} : SqL K F a xs → RpAll K F xs ds → Rp K F (.ref a) (.list ds)
  | tup {a : Addr} {xs : List V} {ds : List D} : SqT K F a xs → RpAll K F xs ds → Rp K F (.ref a) (.tuple ds)
  | dct {a : Addr} {kvs : List (Key × V)} {ds : List (D × D)} : F a = some (.dK kvs) → RpKV K F kvs ds → Rp K F (.ref a) (.dict ds)
inductive RpAll (K : PySem.W.Frag) (F : Hp) : List V → List D → Prop
  | nil : RpAll K F [] []
  | cons {v : V} {vs : List V} {d : D} {ds : List D} : Rp K F v d → RpAll K F vs ds → RpAll K F (v :: vs) (d :: ds)
inductive RpKV (K : PySem.W.Frag) (F : Hp) : List (Key × V) → List (D × D) → Prop
  | nil : RpKV K F [] []
  | cons {k : Key} {v : V} {kvs : List (Key × V)} {d : D} {ds : List (D × D)} : Rp K F v d → RpKV K F kvs ds → RpKV K F ((k, v) :: kvs) ((keyD k, d) :: ds)
end
/-- F's things stand in H -/
abbrev Sub (F H : Hp) : Prop := Same F H
theorem Sub.seqT {K : PySem.W.Frag} {H H' : Hp} {a : Addr} {xs : List V} (e : Sub H H') (h : SqT K H a xs) : SqT K H' a xs := by
  rcases h with (h | ⟨o, h⟩) | h
  · exact .inl (.inl (e _ _ h))
  · exact .inl (.inr ⟨o, e _ _ h⟩)
  · exact .inr h
section
variable {K : PySem.W.Frag} {F F' H H' : Hp}
mutual
theorem Rp.mono (s : Sub F F') : ∀ {v : V} {d : D}, Rp K F v d → Rp K F' v d
  | _, _, .non => .non
  | _, _, .bl b => .bl b
  | _, _, .int i => .int i
  | _, _, .str x => .str x
  | _, _, .lst h r => .lst (s.seq h) (RpAll.mono s r)
  | _, _, .tup h r => .tup (Sub.seqT s h) (RpAll.mono s r)
  | _, _, .dct h r => .dct (s _ _ h) (RpKV.mono s r)
theorem RpAll.mono (s : Sub F F') : ∀ {vs : List V} {ds : List D}, RpAll K F vs ds → RpAll K F' vs ds
  | _, _, .nil => .nil
  | _, _, .cons h r => .cons (Rp.mono s h) (RpAll.mono s r)
theorem RpKV.mono (s : Sub F F') : ∀ {vs : List (Key × V)} {ds : List (D × D)}, RpKV K F vs ds → RpKV K F' vs ds
  | _, _, .nil => .nil
  | _, _, .cons h r => .cons (Rp.mono s h) (RpKV.mono s r)
end
theorem RpAll.length : ∀ {vs : List V} {ds : List D}, RpAll K F vs ds → vs.length = ds.length
  | _, _, .nil => rfl
  | _, _, .cons _ r => congrArg Nat.succ (RpAll.length r)
theorem RpAll.get : ∀ {vs : List V} {ds : List D} {i : Nat} {d : D}, RpAll K F vs ds → ds[i]? = some d → ∃ v, vs[i]? = some v ∧ Rp K F v d
  | _, _, _, _, .nil, e => by simp at e
  | _, _, 0, _, .cons h _, e => by simp at e; subst e; exact ⟨_, rfl, h⟩
  | _, _, i + 1, d, .cons _ r, e => by
    obtain ⟨v, h1, h2⟩ := RpAll.get (i := i) r (by simpa using e)
    exact ⟨v, by simpa using h1, h2⟩
theorem RpAll.append : ∀ {vs ws : List V} {ds es : List D}, RpAll K F vs ds → RpAll K F ws es → RpAll K F (vs ++ ws) (ds ++ es)
  | _, _, _, _, .nil, s => s
  | _, _, _, _, .cons h r, s => .cons h (RpAll.append r s)
theorem RpAll.take : ∀ {vs : List V} {ds : List D} (n : Nat), RpAll K F vs ds → RpAll K F (vs.take n) (ds.take n)
  | _, _, 0, _ => .nil
  | _, _, _ + 1, .nil => .nil
  | _, _, n + 1, .cons h r => .cons h (RpAll.take n r)
theorem RpAll.drop : ∀ {vs : List V} {ds : List D} (n : Nat), RpAll K F vs ds → RpAll K F (vs.drop n) (ds.drop n)
  | _, _, 0, r => r
  | _, _, _ + 1, .nil => .nil
  | _, _, n + 1, .cons _ r => RpAll.drop n r
theorem RpAll.set {v : V} {d : D} (h : Rp K F v d) : ∀ {vs : List V} {ds : List D} (i : Nat), RpAll K F vs ds → RpAll K F (vs.set i v) (ds.set i d)
  | _, _, _, .nil => .nil
  | _, _, 0, .cons _ r => .cons h r
  | _, _, i + 1, .cons q r => .cons q (RpAll.set h i r)
theorem RpAll.ints : ∀ {vs : List V} {ns : List Int}, RpAll K F vs (ns.map PyData.int) → vs = ns.map V.int
  | _, [], h => by cases h; rfl
  | _, n :: ns, h => by
    cases h with
    | cons h r =>
      cases h
      rw [RpAll.ints r]
      rfl
theorem RpAll.of_ints : ∀ ns : List Int, RpAll K F (ns.map V.int) (ns.map PyData.int)
  | [] => .nil
  | n :: ns => .cons (.int n) (RpAll.of_ints ns)
theorem Rp.tupleAt {v : V} {ds : List D} (h : Rp K F v (.tuple ds)) : ∃ a xs, v = .ref a ∧ SqT K F a xs ∧ RpAll K F xs ds := by
  cases h with
  | tup h r => exact ⟨_, _, rfl, h, r⟩
theorem Rp.listAt {v : V} {ds : List D} (h : Rp K F v (.list ds)) : ∃ a xs, v = .ref a ∧ SqL K F a xs ∧ RpAll K F xs ds := by
  cases h with
  | lst h r => exact ⟨_, _, rfl, h, r⟩
end

/-! ### the slots -/
/-- the own list of a slot stands at a -/
def OwnAt (σ : L2.St) (en : En) (a : Addr) : Prop := ∃ (i : Nat) (ds : List D), en[i]? = some (.own ds) ∧ σ[i]? = some (some (.ref a))
structure Sl (K : PySem.W.Frag) (F H : Hp) (en : En) (σ : L2.St) : Prop where
  len : en.length = σ.length
  sub : Sub F H
  val : ∀ (i : Nat) (d : D), en[i]? = some (.val d) → ∃ v, σ[i]? = some (some v) ∧ Rp K F v d
  own : ∀ (i : Nat) (ds : List D), en[i]? = some (.own ds) → ∃ (a : Addr) (xs : List V), σ[i]? = some (some (.ref a)) ∧ H a = some (.lst xs) ∧ F a = none ∧ RpAll K F xs ds
  ap : ∀ (i j : Nat) (ds es : List D) (a : Addr), en[i]? = some (.own ds) → en[j]? = some (.own es) → σ[i]? = some (some (.ref a)) → σ[j]? = some (some (.ref a)) → i = j
/-- from one state to a later one of the same frame -/
structure Stp (K : PySem.W.Frag) (io : Option Nat) (σ : L2.St) (F H : Hp) (en : En) (F' H' : Hp) (en' : En) : Prop where
  sl : Sl K F' H' en' σ
  mono : Sub F F'
  new : ∀ a, F' a ≠ none → F a ≠ none ∨ H a = none ∨ OwnAt σ en a
  keep : ∀ a o, H a = some o → ¬ OwnAt σ en a → H' a = some o
  own' : ∀ (i : Nat) (ds : List D), en'[i]? = some (.own ds) → ∃ es : List D, en[i]? = some (.own es)
  io' : ∀ (p : Nat), io = some p → (∃ ds : List D, en[p]? = some (.own ds)) → ∃ ds : List D, en'[p]? = some (.own ds)
section
variable {K : PySem.W.Frag} {io : Option Nat} {σ : L2.St} {F H F1 H1 F2 H2 : Hp} {en en1 en2 : En}
theorem Stp.refl (s : Sl K F H en σ) : Stp K io σ F H en F H en :=
  ⟨s, fun _ _ h => h, fun _ h => .inl h, fun _ _ h _ => h, fun i ds h => ⟨ds, h⟩, fun _ _ h => h⟩
theorem Stp.ownAt (s : Stp K io σ F H en F1 H1 en1) {a : Addr} (h : OwnAt σ en1 a) : OwnAt σ en a := by
  obtain ⟨i, ds, h1, h2⟩ := h
  obtain ⟨es, h3⟩ := s.own' i ds h1
  exact ⟨i, es, h3, h2⟩
theorem Stp.trans (s : Stp K io σ F H en F1 H1 en1) (t : Stp K io σ F1 H1 en1 F2 H2 en2) : Stp K io σ F H en F2 H2 en2 where
  sl := t.sl
  mono := s.mono.trans t.mono
  new := fun a h => by
    rcases t.new a h with h | h | h
    · exact s.new a h
    · by_cases ho : OwnAt σ en a
      · exact .inr (.inr ho)
      · cases q : H a with
        | none => exact .inr (.inl rfl)
        | some o =>
          rw [s.keep a o q ho] at h
          cases h
    · exact .inr (.inr (s.ownAt h))
  keep := fun a o h n => t.keep a o (s.keep a o h n) fun z => n (s.ownAt z)
  own' := fun i ds h => by
    obtain ⟨es, h1⟩ := t.own' i ds h
    exact s.own' i es h1
  io' := fun p hp h => t.io' p hp (s.io' p hp h)

/-- a result -/
def RvOk (K : PySem.W.Frag) (σ : L2.St) (H : Hp) (en : En) (F' H' : Hp) (en' : En) (v : V) : Rv → Prop
  | .val d => Rp K F' v d
  | .own ds => ∃ a xs, v = .ref a ∧ H' a = some (.lst xs) ∧ F' a = none ∧ RpAll K F' xs ds ∧ ¬ OwnAt σ en' a ∧ (H a = none ∨ OwnAt σ en a)
/-- an argument as it was reckoned -/
def AvOk (K : PySem.W.Frag) (σ : L2.St) (H : Hp) (en : En) (F' H' : Hp) (en' : En) (v : V) : Av → Prop
  | .dat d => Rp K F' v d
  | .pk i => σ[i]? = some (some v)
  | .own ds => ∃ a xs, v = .ref a ∧ H' a = some (.lst xs) ∧ F' a = none ∧ RpAll K F' xs ds ∧ ¬ OwnAt σ en' a ∧ (H a = none ∨ OwnAt σ en a)
theorem RvOk.later {v : V} {r : Rv} (h : RvOk K σ H en F1 H1 en1 v r) (t : Stp K io σ F1 H1 en1 F2 H2 en2) : RvOk K σ H en F2 H2 en2 v r := by
  cases r with
  | val d => exact Rp.mono t.mono h
  | own ds =>
    obtain ⟨a, xs, rfl, h1, h2, h3, h4, h5⟩ := h
    refine ⟨a, xs, rfl, t.keep a _ h1 h4, ?_, h3.mono t.mono, fun z => h4 (t.ownAt z), h5⟩
    cases q : F2 a with
    | none => rfl
    | some o =>
      rcases t.new a (by rw [q]; exact fun z => nomatch z) with z | z | z
      · exact absurd h2 z
      · rw [h1] at z; cases z
      · exact absurd z h4
theorem AvOk.later {v : V} {r : Av} (h : AvOk K σ H en F1 H1 en1 v r) (t : Stp K io σ F1 H1 en1 F2 H2 en2) : AvOk K σ H en F2 H2 en2 v r := by
  cases r with
  | dat d => exact Rp.mono t.mono h
  | pk i => exact h
  | own ds => exact RvOk.later (r := .own ds) h t
theorem AvOk.from {v : V} {r : Av} (s : Stp K io σ F H en F1 H1 en1) (h : AvOk K σ H1 en1 F2 H2 en2 v r) : AvOk K σ H en F2 H2 en2 v r := by
  cases r with
  | dat d => exact h
  | pk i => exact h
  | own ds =>
    obtain ⟨a, xs, e, h1, h2, h3, h4, h5⟩ := h
    refine ⟨a, xs, e, h1, h2, h3, h4, ?_⟩
    rcases h5 with h5 | h5
    · by_cases ho : OwnAt σ en a
      · exact .inr ho
      · cases q : H a with
        | none => exact .inl rfl
        | some o => rw [s.keep a o q ho] at h5; cases h5
    · exact .inr (s.ownAt h5)
theorem RvOk.from {v : V} {r : Rv} (s : Stp K io σ F H en F1 H1 en1) (h : RvOk K σ H1 en1 F2 H2 en2 v r) : RvOk K σ H en F2 H2 en2 v r := by
  cases r with
  | val d => exact h
  | own ds => exact AvOk.from (r := .own ds) s h

/-- a value seen: one that never changes, or a list as it stands -/
def See (K : PySem.W.Frag) (F H : Hp) (v : V) (d : D) : Prop := Rp K F v d ∨ ∃ a xs ds, v = .ref a ∧ d = .list ds ∧ H a = some (.lst xs) ∧ RpAll K F xs ds
theorem AvOk.see {v : V} {r : Av} {d : D} (s : Sl K F1 H1 en1 σ) (h : AvOk K σ H en F1 H1 en1 v r) (e : r.see en1 = some d) : See K F1 H1 v d := by
  cases r with
  | dat d' =>
    have e' : d' = d := Option.some.inj e
    subst e'
    exact .inl h
  | pk i =>
    have hv : σ[i]? = some (some v) := h
    unfold Av.see at e
    simp only at e
    split at e
    · rename_i ds q
      obtain ⟨a, xs, h1, h2, _, h4⟩ := s.own i ds q
      rw [hv] at h1
      cases h1
      cases e
      exact .inr ⟨a, xs, ds, rfl, rfl, h2, h4⟩
    · cases e
  | own ds =>
    have e' : PyData.list ds = d := Option.some.inj e
    subst e'
    obtain ⟨a, xs, rfl, h1, _, h3, _⟩ := h
    exact .inr ⟨a, xs, ds, rfl, rfl, h1, h3⟩
theorem See.list {v : V} {ds : List D} (sb : Sub F H) (h : See K F H v (.list ds)) : ∃ a xs, v = .ref a ∧ SqL K H a xs ∧ RpAll K F xs ds := by
  rcases h with h | ⟨a, xs, es, rfl, e, h1, h2⟩
  · obtain ⟨a, xs, rfl, h1, h2⟩ := h.listAt
    exact ⟨a, xs, rfl, sb.seq h1, h2⟩
  · cases e
    exact ⟨a, xs, rfl, SqL.of h1, h2⟩
theorem See.tup {v : V} {ds : List D} (h : See K F H v (.tuple ds)) : Rp K F v (.tuple ds) := by
  rcases h with h | ⟨a, xs, es, rfl, e, h1, h2⟩
  · exact h
  · cases e
theorem See.at {v : V} {d : D} (sb : Sub F H) (h : See K F H v d) : Rp K H v d := by
  rcases h with h | ⟨a, xs, es, rfl, rfl, h1, h2⟩
  · exact h.mono sb
  · exact .lst (SqL.of h1) (h2.mono sb)
theorem See.int {v : V} {i : Int} (h : See K F H v (.int i)) : v = .int i := by
  rcases h with h | ⟨a, xs, es, rfl, e, h1, h2⟩
  · cases h; rfl
  · cases e
theorem See.bool {v : V} {i : Bool} (h : See K F H v (.bool i)) : v = .bl i := by
  rcases h with h | ⟨a, xs, es, rfl, e, h1, h2⟩
  · cases h; rfl
  · cases e

/-! ### new things -/
theorem sub_new {F H : Hp} {p : Addr} {o : HO} (s : Sub F H) (hp : H p = none) : Sub F (upd H p o) := fun a u h => by
  rw [upd_ne (ne_of_none (s a u h) hp)]
  exact s a u h
theorem sub_newF {F H : Hp} {p : Addr} {o : HO} (s : Sub F H) (hp : H p = none) : Sub F (upd F p o) := fun a u h => by
  rw [upd_ne (ne_of_none (s a u h) hp)]
  exact h
theorem sub_both {F H : Hp} {p : Addr} {o : HO} (s : Sub F H) : Sub (upd F p o) (upd H p o) := fun a u h => by
  by_cases e : a = p
  · subst e
    rw [upd_same] at h ⊢
    exact h
  · rw [upd_ne e] at h ⊢
    exact s a u h
/-- a new object that nobody holds yet -/
theorem Sl.laid (s : Sl K F H en σ) {p : Addr} {o : HO} (hp : H p = none) : Sl K F (upd H p o) en σ where
  len := s.len
  sub := sub_new s.sub hp
  val := s.val
  own := fun i ds h => by
    obtain ⟨a, xs, h1, h2, h3, h4⟩ := s.own i ds h
    exact ⟨a, xs, h1, by rw [upd_ne (ne_of_none h2 hp)]; exact h2, h3, h4⟩
  ap := s.ap
theorem Stp.laid (s : Sl K F H en σ) {p : Addr} {o : HO} (hp : H p = none) : Stp K io σ F H en F (upd H p o) en where
  sl := s.laid hp
  mono := fun _ _ h => h
  new := fun _ h => .inl h
  keep := fun a u h _ => by rw [upd_ne (ne_of_none h hp)]; exact h
  own' := fun i ds h => ⟨ds, h⟩
  io' := fun _ _ h => h
/-- a tracked object, no slot's own, is one that never changes from now on -/
theorem Stp.frozen (s : Sl K F H en σ) {p : Addr} {o : HO} (hp : H p = some o) (hf : F p = none) (hn : ¬ OwnAt σ en p) {H0 : Hp} {en0 : En} (h0 : H0 p = none ∨ OwnAt σ en0 p) {F0 : Hp} (z : Stp K io σ F0 H0 en0 F H en) : Stp K io σ F0 H0 en0 (upd F p o) H en where
  sl := {
    len := s.len
    sub := fun a u h => by
      by_cases e : a = p
      · subst e
        rw [upd_same] at h
        rw [hp]
        exact h
      · rw [upd_ne e] at h
        exact s.sub a u h
    val := fun i d h => by
      obtain ⟨v, h1, h2⟩ := s.val i d h
      refine ⟨v, h1, h2.mono fun a u q => ?_⟩
      rw [upd_ne (fun e => by subst e; rw [hf] at q; cases q)]
      exact q
    own := fun i ds h => by
      obtain ⟨a, xs, h1, h2, h3, h4⟩ := s.own i ds h
      have ne : a ≠ p := fun e => hn ⟨i, ds, h, by rw [← e]; exact h1⟩
      refine ⟨a, xs, h1, h2, by rw [upd_ne ne]; exact h3, h4.mono fun b u q => ?_⟩
      rw [upd_ne (fun e => by subst e; rw [hf] at q; cases q)]
      exact q
    ap := s.ap }
  mono := fun a u h => by
    have q := z.mono a u h
    rw [upd_ne (fun e => by subst e; rw [hf] at q; cases q)]
    exact q
  new := fun a h => by
    by_cases e : a = p
    · subst e
      exact .inr h0
    · rw [upd_ne e] at h
      exact z.new a h
  keep := z.keep
  own' := z.own'
  io' := z.io'
/-- the continuation of a result -/
def Cont (K : PySem.W.Frag) (io : Option Nat) (σ : L2.St) (F H : Hp) (en en' : En) (r : Rv) (Q : VK) : Prop := ∀ F' H' v, Stp K io σ F H en F' H' en' → RvOk K σ H en F' H' en' v r → Q v H'
def ContV (K : PySem.W.Frag) (io : Option Nat) (σ : L2.St) (F H : Hp) (en en' : En) (d : D) (Q : VK) : Prop := ∀ F' H' v, Stp K io σ F H en F' H' en' → Rp K F' v d → Q v H'
variable {Q : VK}
theorem Cont.val {d : D} {v : V} (c : Cont K io σ F H en en1 (.val d) Q) (s : Stp K io σ F H en F1 H1 en1) (h : Rp K F1 v d) : Q v H1 := c F1 H1 v s h
theorem Cont.tup {ds : List D} {xs : List V} {p : Addr} (c : Cont K io σ F H en en1 (.val (.tuple ds)) Q) (s : Stp K io σ F H en F1 H1 en1) (h : RpAll K F1 xs ds) (hp : H1 p = none) : Q (.ref p) (upd H1 p (.tup xs)) := by
  have hF : F1 p = none := by
    cases q : F1 p with
    | none => rfl
    | some o => rw [s.sl.sub p o q] at hp; cases hp
  have hn : ¬ OwnAt σ en1 p := fun ⟨i, ds, h1, h2⟩ => by
    obtain ⟨a, xs, h3, h4, _⟩ := s.sl.own i ds h1
    rw [h2] at h3
    cases h3
    rw [hp] at h4
    cases h4
  have s1 := s.trans (Stp.laid (io := io) s.sl (o := .tup xs) hp)
  have h0 : H p = none ∨ OwnAt σ en p := by
    by_cases ho : OwnAt σ en p
    · exact .inr ho
    · cases q : H p with
      | none => exact .inl rfl
      | some o => rw [s.keep p o q ho] at hp; cases hp
  have s2 := Stp.frozen s1.sl (p := p) (o := .tup xs) upd_same hF hn h0 s1
  exact c _ _ _ s2 (.tup (.inl (.inl upd_same)) (h.mono (sub_newF s.sl.sub hp)))
theorem Cont.own {ds : List D} {xs : List V} {p : Addr} (c : Cont K io σ F H en en1 (.own ds) Q) (s : Stp K io σ F H en F1 H1 en1) (h : RpAll K F1 xs ds) (hp : H1 p = none) : Q (.ref p) (upd H1 p (.lst xs)) := by
  have hF : F1 p = none := by
    cases q : F1 p with
    | none => rfl
    | some o => rw [s.sl.sub p o q] at hp; cases hp
  have hn : ¬ OwnAt σ en1 p := fun ⟨i, ds, h1, h2⟩ => by
    obtain ⟨a, xs, h3, h4, _⟩ := s.sl.own i ds h1
    rw [h2] at h3
    cases h3
    rw [hp] at h4
    cases h4
  have h0 : H p = none ∨ OwnAt σ en p := by
    by_cases ho : OwnAt σ en p
    · exact .inr ho
    · cases q : H p with
      | none => exact .inl rfl
      | some o => rw [s.keep p o q ho] at hp; cases hp
  exact c _ _ _ (s.trans (Stp.laid s.sl hp)) ⟨p, xs, rfl, upd_same, hF, h, hn, h0⟩
/-- a result taken as a value that never changes -/
theorem ContV.of {r : Rv} (c : ContV K io σ F H en en1 r.d Q) : Cont K io σ F H en en1 r Q := fun F' H' v s h => by
  cases r with
  | val d => exact c F' H' v s h
  | own ds =>
    obtain ⟨a, xs, rfl, h1, h2, h3, h4, h5⟩ := h
    refine c _ _ _ (Stp.frozen s.sl h1 h2 h4 h5 s) (.lst (.inl (.inl upd_same)) (h3.mono fun b u q => ?_))
    rw [upd_ne (fun e => by subst e; rw [h2] at q; cases q)]
    exact q
end
end Mp

end

section
namespace Mp
open PySem PySem.Spec PyProof.Rows L2

/-! ### data read off the model's heap -/
section
variable {X : Cx} {pins : List (Addr × Obj)} {σ : L2.St} {H : Hp} {s : Shared}
theorem keyD_reads {h : Heap} {k : Key} {v : Value} (e : keyIs k v = true) : Reads h v (keyD k) [] := by
  rcases keyIs_shape e with ⟨i, t, rfl, rfl⟩ | ⟨x, t, rfl, rfl⟩
  · exact .int i t
  · exact .str x t
/-- what stands at the place of the loaded modules is a dict -/
def SmB (base : Heap) : Prop := ∃ o : Obj, base.get? sysModules = some o ∧ o.cls = .type "dict"
theorem sm_ne (I : Inv X pins σ H s) (sm : SmB X.base) {a : Addr} {o : Obj} (ho : s.heap.get? a = some o) (hc : o.cls = .type "list") : sysModules ≠ a := fun e => by
  subst e
  obtain ⟨o2, h1, h2⟩ := sm
  have h3 := I.bk _ _ h1
  rw [h3] at ho
  cases ho
  rw [h2] at hc
  exact absurd hc (by decide)
theorem pairs_reads {prog : Program} {w : World} {h : Heap} : ∀ {es : List DictEntry} {vs : List (Key × Value)}, Pairs (mixKind prog w) es vs → ReadsAll h (es.map (·.key)) (vs.map fun q => keyD q.1) []
  | _, _, .nil => .nil
  | _, _, .cons h1 _ h3 => .cons (as := []) (keyD_reads h1) (pairs_reads h3)
theorem pairs_vals {prog : Program} {w : World} : ∀ {es : List DictEntry} {vs : List (Key × Value)}, Pairs (mixKind prog w) es vs → es.map (·.val) = vs.map (·.2)
  | _, _, .nil => rfl
  | _, _, .cons _ h2 h3 => by rw [List.map_cons, List.map_cons, h2, pairs_vals h3]
theorem kv_vals : ∀ {kvs : List (Key × V)} {vs : List (Key × Value)}, KV kvs vs → Vals (kvs.map (·.2)) (vs.map (·.2)) ∧ kvs.map (·.1) = vs.map (·.1)
  | _, _, .nil => ⟨.nil, rfl⟩
  | _, _, .cons h r => ⟨.cons h.2 (kv_vals r).1, by rw [List.map_cons, List.map_cons, (kv_vals r).2, h.1]⟩
theorem rpkv_keys {K : PySem.W.Frag} {F : Hp} : ∀ {kvs : List (Key × V)} {ds : List (D × D)}, RpKV K F kvs ds → ds.map (·.1) = kvs.map (fun q => keyD q.1) ∧ RpAll K F (kvs.map (·.2)) (ds.map (·.2))
  | _, _, .nil => ⟨rfl, .nil⟩
  | _, _, .cons h r => ⟨by rw [List.map_cons, List.map_cons, (rpkv_keys r).1], .cons h (rpkv_keys r).2⟩
mutual
theorem Rp.reads (I : Inv X pins σ H s) (sm : SmB X.base) : ∀ (d : PyData) (v : V) (u : Value), Rp X.K H v d → RelV v u → ∃ as, Reads s.heap u d as ∧ sysModules ∉ as
  | .none, _, _, h, r => by
    cases h
    cases r
    exact ⟨_, Reads.none, by simp⟩
  | .bool b, _, _, h, r => by
    cases h
    cases r
    exact ⟨_, Reads.bool b, by simp⟩
  | .int i, _, _, h, r => by
    cases h
    obtain ⟨t, rfl⟩ := r
    exact ⟨_, Reads.int i t, by simp⟩
  | .str x, _, _, h, r => by
    cases h
    obtain ⟨t, rfl⟩ := r
    exact ⟨_, Reads.str x t, by simp⟩
  | .list ds, _, _, h, r => by
    cases h with
    | lst hs ha =>
      cases r
      obtain ⟨its, rv, ⟨o, m, ho, hc, _, hd⟩, _⟩ := I.list hs
      obtain ⟨as, hr, hn⟩ := Rp.readsAll I sm ds _ its ha rv
      refine ⟨_, Reads.list ho hc hd hr, fun z => ?_⟩
      rcases List.mem_cons.mp z with z | z
      · exact sm_ne I sm ho hc z
      · exact hn z
  | .tuple ds, _, _, h, r => by
    cases h with
    | tup hs ha =>
      cases r
      obtain ⟨its, rv, ⟨o, ho, hc, m, hd⟩, _⟩ := I.tuple hs
      obtain ⟨as, hr, hn⟩ := Rp.readsAll I sm ds _ its ha rv
      exact ⟨_, Reads.tuple ho hc hd hr, hn⟩
  | .dict ds, _, _, h, r => by
    cases h with
    | dct he hk =>
      cases r
      obtain ⟨_, hne, vs, kv, ⟨o, es, ep, ho, hx, hd, _, hp, _⟩⟩ := dk_of I.hok he
      obtain ⟨k1, k2⟩ := rpkv_keys hk
      obtain ⟨v1, v2⟩ := kv_vals kv
      have e1 : ds.map (·.1) = vs.map (fun q => keyD q.1) := by
        rw [k1]
        have := congrArg (List.map keyD) v2
        rwa [List.map_map, List.map_map] at this
      obtain ⟨bs, hb, hn⟩ := Rp.readsPairs I sm ds _ _ k2 v1
      have r1 := pairs_reads (h := s.heap) hp
      rw [← e1] at r1
      rw [← pairs_vals hp] at hb
      refine ⟨_, Reads.dict ho hx.1 hd r1 hb, fun z => ?_⟩
      have z : sysModules ∈ _ :: ([] ++ bs) := z
      rcases List.mem_cons.mp z with z | z
      · rw [← z] at hne
        exact absurd hne (by decide)
      · exact hn z
theorem Rp.readsAll (I : Inv X pins σ H s) (sm : SmB X.base) : ∀ (ds : List PyData) (vs : List V) (us : List Value), RpAll X.K H vs ds → Vals vs us → ∃ as, ReadsAll s.heap us ds as ∧ sysModules ∉ as
  | [], _, _, h, r => by
    cases h
    cases r
    exact ⟨_, ReadsAll.nil, by simp⟩
  | d :: ds, _, _, h, r => by
    cases h with
    | cons h1 h2 =>
      cases r with
      | cons r1 r2 =>
        obtain ⟨as, q1, n1⟩ := Rp.reads I sm d _ _ h1 r1
        obtain ⟨bs, q2, n2⟩ := Rp.readsAll I sm ds _ _ h2 r2
        exact ⟨_, ReadsAll.cons q1 q2, fun z => by
          rcases List.mem_append.mp z with z | z
          · exact n1 z
          · exact n2 z⟩
theorem Rp.readsPairs (I : Inv X pins σ H s) (sm : SmB X.base) : ∀ (ds : List (PyData × PyData)) (vs : List V) (us : List Value), RpAll X.K H vs (ds.map (·.2)) → Vals vs us → ∃ as, ReadsAll s.heap us (ds.map (·.2)) as ∧ sysModules ∉ as
  | [], _, _, h, r => by
    cases h
    cases r
    exact ⟨_, ReadsAll.nil, by simp⟩
  | (k, d) :: ds, _, _, h, r => by
    cases h with
    | cons h1 h2 =>
      cases r with
      | cons r1 r2 =>
        obtain ⟨as, q1, n1⟩ := Rp.reads I sm d _ _ h1 r1
        obtain ⟨bs, q2, n2⟩ := Rp.readsPairs I sm ds _ _ h2 r2
        exact ⟨_, ReadsAll.cons q1 q2, fun z => by
          rcases List.mem_append.mp z with z | z
          · exact n1 z
          · exact n2 z⟩
end
mutual
theorem Rp.reads0 (I : Inv X pins σ H s) : ∀ (d : PyData) (v : V) (u : Value), d.hasDict = false → Rp X.K H v d → RelV v u → ∃ as, Reads s.heap u d as
  | .none, _, _, _, h, r => by
    cases h
    cases r
    exact ⟨_, Reads.none⟩
  | .bool b, _, _, _, h, r => by
    cases h
    cases r
    exact ⟨_, Reads.bool b⟩
  | .int i, _, _, _, h, r => by
    cases h
    obtain ⟨t, rfl⟩ := r
    exact ⟨_, Reads.int i t⟩
  | .str x, _, _, _, h, r => by
    cases h
    obtain ⟨t, rfl⟩ := r
    exact ⟨_, Reads.str x t⟩
  | .list ds, _, _, n, h, r => by
    cases h with
    | lst hs ha =>
      cases r
      obtain ⟨its, rv, ⟨o, m, ho, hc, _, hd⟩, _⟩ := I.list hs
      obtain ⟨as, hr⟩ := Rp.readsAll0 I ds _ its (by simpa [PyData.hasDict] using n) ha rv
      exact ⟨_, Reads.list ho hc hd hr⟩
  | .tuple ds, _, _, n, h, r => by
    cases h with
    | tup hs ha =>
      cases r
      obtain ⟨its, rv, ⟨o, ho, hc, m, hd⟩, _⟩ := I.tuple hs
      obtain ⟨as, hr⟩ := Rp.readsAll0 I ds _ its (by simpa [PyData.hasDict] using n) ha rv
      exact ⟨_, Reads.tuple ho hc hd hr⟩
  | .dict _, _, _, n, _, _ => by simp [PyData.hasDict] at n
theorem Rp.readsAll0 (I : Inv X pins σ H s) : ∀ (ds : List PyData) (vs : List V) (us : List Value), PyData.hasDictAll ds = false → RpAll X.K H vs ds → Vals vs us → ∃ as, ReadsAll s.heap us ds as
  | [], _, _, _, h, r => by
    cases h
    cases r
    exact ⟨_, ReadsAll.nil⟩
  | d :: ds, _, _, n, h, r => by
    obtain ⟨n1, n2⟩ : d.hasDict = false ∧ PyData.hasDictAll ds = false := by simpa [PyData.hasDictAll] using n
    cases h with
    | cons h1 h2 =>
      cases r with
      | cons r1 r2 =>
        obtain ⟨as, q1⟩ := Rp.reads0 I d _ _ n1 h1 r1
        obtain ⟨bs, q2⟩ := Rp.readsAll0 I ds _ _ n2 h2 r2
        exact ⟨_, ReadsAll.cons q1 q2⟩
end
mutual
theorem noDict_of_lay : ∀ d : PyData, d.canLay0 = true → d.hasDict = false
  | .none, _ => by simp [PyData.hasDict]
  | .bool _, _ => by simp [PyData.hasDict]
  | .int _, _ => by simp [PyData.hasDict]
  | .str _, _ => by simp [PyData.hasDict]
  | .list ds, h => by
    simp only [PyData.hasDict]
    exact noDictAll_of_lay ds (by simpa [PyData.canLay0] using h)
  | .tuple ds, h => by
    simp only [PyData.hasDict]
    exact noDictAll_of_lay ds (by simpa [PyData.canLay0] using h)
  | .dict _, h => by simp [PyData.canLay0] at h
theorem noDictAll_of_lay : ∀ ds : List PyData, PyData.canLayAll0 ds = true → PyData.hasDictAll ds = false
  | [], _ => by simp [PyData.hasDictAll]
  | d :: ds, h => by
    obtain ⟨h1, h2⟩ : d.canLay0 = true ∧ PyData.canLayAll0 ds = true := by simpa [PyData.canLayAll0] using h
    simp only [PyData.hasDictAll, noDict_of_lay d h1, noDictAll_of_lay ds h2, Bool.or_false]
end
theorem noDict_of_shaped {d : PyData} (h : SeqAt.shaped d = true) : d.hasDict = false := by
  unfold SeqAt.shaped at h
  rw [Bool.and_eq_true] at h
  exact noDict_of_lay d h.1
end

/-! ### the running frame -/
/-- what holds of every frame (and block): n calls deep may be called, nothing is handled, no guard runs -/
structure Gd (X : Cx) (n : Nat) : Prop where
  calm : X.calm = true
  room : Room n X.A
  grd : X.A.guards = some []

section
variable {X : Cx} {n : Nat} {io : Option Nat}
/-- the end of an operation: where it stands, what it is to hand on -/
structure Opn (K : PySem.W.Frag) (io : Option Nat) (H : Hp) (Q : VK) (F : Hp) (r : Rv) where
  σ : L2.St
  F0 : Hp
  H0 : Hp
  en0 : En
  en : En
  st : Stp K io σ F0 H0 en0 F H en
  c : Cont K io σ F0 H0 en0 en r Q
def rBin (K : PySem.W.Frag) (io : Option Nat) (o : Bop) : R2 := fun x y H Q => ∃ (F : Hp) (a b : D) (r : Rv) (_ : Opn K io H Q F r), See K F H x a ∧ See K F H y b ∧ binD o a b = some r
theorem okLen_le {k : Nat} (h : okLen k = true) : k ≤ sizeLine := of_decide_eq_true h
theorem mulOk_ok {i j : Int} (h : mulOk i j = true) : IntMulOk i j := by
  have b : ∀ x : Int, Builtin.Int.intBits x ≤ x.natAbs.log2 + 1 := fun x => by
    unfold Builtin.Int.intBits
    split <;> omega
  have h1 := b i
  have h2 := b j
  have h3 : i.natAbs.log2 + j.natAbs.log2 < 134000000 := of_decide_eq_true h
  have e : bitsLine = 134217728 := by decide
  unfold IntMulOk
  intro z
  rw [Bool.and_eq_true] at z
  have z2 := z.2
  unfold Builtin.Int.intTooBig at z2
  have z3 := of_decide_eq_true z2
  rw [e] at z3
  omega
theorem op_catG : OpR X (binaryOp .Add) (fun x y H Q => ∃ l b xs zs, x = .ref l ∧ y = .ref b ∧ SqL X.K H l xs ∧ SqL X.K H b zs ∧ xs.length + zs.length ≤ sizeLine ∧ ∀ p, H p = none → Q (.ref p) (upd H p (.lst (xs ++ zs)))) := by
  intro pins s σ H x y v u Q I rx ry h
  obtain ⟨l, b, xs, zs, rfl, rfl, hl, hb, hz, q⟩ := h
  cases rx
  cases ry
  obtain ⟨its, r, p1, _⟩ := I.list hl
  obtain ⟨its2, r2, p2, _⟩ := I.list hb
  have l1 := r.length
  have l2 := r2.length
  obtain ⟨⟨cls, dd, data, sl⟩, ho, hc, n, hd⟩ := p1.isList
  obtain ⟨⟨cls2, dd2, data2, sl2⟩, ho2, hc2, n2, hd2⟩ := p2.isList
  simp only at hc hd hc2 hd2
  subst hc hd hc2 hd2
  have e : its.toArray ++ its2.toArray = (its ++ its2).toArray := by simp
  refine concat_meets ⟨_, ho, rfl⟩ ⟨_, ho2, rfl⟩ noFill_list_add seq_list_add PySem.F.slot_list_add PySem.F.entry_list_add (PySem.F.args_list_add_2 _ _) (list_addW l b its.toArray its2.toArray n n2 dd dd2 sl sl2 (by simp only [List.size_toArray]; omega)) ⟨ho, ho2, ?_⟩
  rw [e]
  exact ⟨.ref _, _, I.lnew (t' := s.toks) (r.append r2) (by rw [List.length_append]; omega), rfl, q _ I.fresh⟩
theorem rep_mul (l : Addr) (items : Array Value) (n : Nat) (dd : Option Addr) (sl : Array (Option Value)) (x : Int) (u : Tok) (hc0 : ¬(!Builtin.List.listFitsIndex x) = true) (hc1 : ¬items.size * x.toNat > (2 ^ 63 - 1) / 8) (hc2 : ¬Builtin.List.listTooLong (items.size * x.toNat) = true) :
    Meets (Builtin.«list.__mul__» ⟨[.ref l, .int x u], []⟩) (fun _ R s => s.heap.get? l = some { cls := .type "list", dict := dd, data := .seq items n, slots := sl } ∧ R (.ok (.ret (Value.ref s.heap.objs.size))) { s with heap := s.heap.push { cls := Value.type "list", data := Data.seq (List.foldl (fun x1 x2 => x1 ++ x2) #[] (List.replicate (if items.isEmpty = true then 0 else x.toNat) items)) }, toks := s.toks }) :=
  .of_wp fun prog w A R s h => by
    obtain ⟨hp, g, d, tk, os⟩ := s; obtain ⟨hl, h⟩ := h
    have hsz := AutoListH.joined_fits hc2
    wp_walk; refine wpAny_ite_false (decide_eq_false (Nat.not_lt.mpr hsz)) ?_; wp_walk; exact ⟨_, rfl, h⟩
theorem rep_rmul (a : Int) (t : Tok) (l : Addr) (items : Array Value) (n : Nat) (dd : Option Addr) (sl : Array (Option Value)) :
    Meets (Builtin.«int.__rmul__» ⟨[.int a t, .ref l], []⟩) (fun _ R s => s.heap.get? l = some { cls := .type "list", dict := dd, data := .seq items n, slots := sl } ∧ R (.ok (.ret Value.notImplemented)) s) :=
  .of_wp fun prog w A R s h => by obtain ⟨hp, g, d, tk, os⟩ := s; obtain ⟨hl, h⟩ := h; wp_walk; exact ⟨_, rfl, h⟩
/-- xs * k -/
theorem op_repG : OpR X (binaryOp .Mult) (fun x y H Q => ∃ a xs k, x = V.ref a ∧ y = V.int k ∧ SqL X.K H a xs ∧ (0 ≤ k ∧ k ≤ 1000 ∧ xs.length ≤ 1000) ∧ ∀ p, H p = none → Q (.ref p) (upd H p (.lst (List.replicate k.toNat xs).flatten))) := by
  intro pins s σ H x y v u Q I rx ry h
  obtain ⟨a, xs, k, rfl, rfl, hs, hk, q⟩ := h
  obtain rfl : v = Value.ref a := rx
  obtain ⟨t, rfl⟩ := ry
  obtain ⟨its, rv, ⟨⟨cls, dd, data, sl⟩, n, ho, hc, hdn, hd⟩, hlen⟩ := I.list hs
  have hc1 : cls = Value.type "list" := hc
  have hd1 : data = Data.seq its.toArray n := hd
  subst hc1 hd1
  have hsl := sizeLine_eq
  have hm : xs.length * k.toNat ≤ 1000 * 1000 := Nat.mul_le_mul hk.2.2 (by omega)
  have hm2 : its.toArray.size * k.toNat ≤ 1000000 := by rw [List.size_toArray, ← rv.length]; omega
  refine wpAny_binaryOp_repeat_ref (T := "list") (U := "int") (by decide) ⟨_, ho, rfl⟩ (fun s' => typeIs_int s' k t) noFill_list_mul F.fills_int_mul F.slot_int_rmul repeat_list F.slot_int_index.lookup
    (call_meets F.slot_int_rmul (typeIs_int s k t) F.entry_int_rmul (F.args_int_rmul_2 _ _) (rep_rmul k t a its.toArray n dd sl)
      ⟨ho, rfl, ⟨_, ho, rfl⟩, call_meets F.slot_list_mul ⟨_, ho, rfl⟩ F.entry_list_mul (F.args_list_mul_2 _ _)
        (rep_mul a its.toArray n dd sl k t (by rw [fitsIndex_both (by omega) (by omega)]; exact Bool.false_ne_true) (by omega) (by simp only [Builtin.List.listTooLong, decide_eq_true_eq]; omega))
        ⟨ho, ?_⟩⟩)
  have f0 : ∀ m : Nat, List.foldl (fun x1 x2 => x1 ++ x2) #[] (List.replicate m its.toArray) = (List.replicate m its).flatten.toArray := fun m => by
    have := foldl_rep its m []
    rw [List.nil_append] at this
    exact this
  have e : List.foldl (fun x1 x2 => x1 ++ x2) #[] (List.replicate (if its.toArray.isEmpty = true then 0 else k.toNat) its.toArray) = (List.replicate k.toNat its).flatten.toArray := by
    rw [f0]
    cases its with
    | nil => simp
    | cons a r' => rw [if_neg (by simp)]
  rw [e]
  refine ⟨.ref s.heap.objs.size, upd H s.heap.objs.size (.lst (List.replicate k.toNat xs).flatten), I.laid (t' := s.toks) (fun b o e => Heap.get?_push_of_some _ e) (Nat.le_refl _) ⟨?_, _, 0, rv.rep k.toNat, Heap.get?_push_size _ rfl⟩, rfl, q _ (I.hok.fresh (Nat.le_refl _))⟩
  rw [PyProof.Rows.lm_len_rep_flat, Nat.mul_comm]
  omega
theorem RpAll.rep {K : PySem.W.Frag} {F : Hp} {vs : List V} {ds : List D} (h : RpAll K F vs ds) : ∀ m : Nat, RpAll K F (List.replicate m vs).flatten (List.replicate m ds).flatten
  | 0 => .nil
  | m + 1 => by
    rw [List.replicate_succ, List.replicate_succ, List.flatten_cons, List.flatten_cons]
    exact RpAll.append h (RpAll.rep h m)
theorem op_bin (o : Bop) : OpR X (binaryOp o.ast) (rBin X.K io o) := by
  intro pins s σ' H x y v u Q I rx ry h
  obtain ⟨F, a, b, r, ⟨σ, F0, H0, en0, en, st, c⟩, hx, hy, e⟩ := h
  unfold binD at e
  split at e
  · cases hx.int; cases hy.int; cases e
    exact op_add pins s σ' H _ _ v u Q I rx ry ⟨_, _, rfl, rfl, c.val st (.int _)⟩
  · rename_i xs ys
    obtain ⟨hz, e⟩ := ned_some e
    cases e
    obtain ⟨a, vs, rfl, h1, h2⟩ := hx.list st.sl.sub
    obtain ⟨b, ws, rfl, h3, h4⟩ := hy.list st.sl.sub
    refine op_catG pins s σ' H _ _ v u Q I rx ry ⟨a, b, vs, ws, rfl, rfl, h1, h3, ?_, fun p hp => c.own st (h2.append h4) hp⟩
    rw [h2.length, h4.length]
    exact okLen_le hz
  · rename_i xs ys
    obtain ⟨hz, e⟩ := ned_some e
    cases e
    have hx' := hx.tup
    have hy' := hy.tup
    obtain ⟨a, vs, rfl, h1, h2⟩ := hx'.tupleAt
    obtain ⟨b, ws, rfl, h3, h4⟩ := hy'.tupleAt
    have l1 := h2.length
    have l2 := h4.length
    refine op_catA pins s σ' H _ _ v u Q I rx ry ⟨a, b, vs, ws, rfl, rfl, Sub.seqT st.sl.sub h1, Sub.seqT st.sl.sub h3, ?_, fun e => ?_, fun _ e => ?_, fun _ _ p hp => c.tup st (h2.append h4) hp⟩
    · rw [l1, l2]
      exact okLen_le hz
    · subst e
      have e2 : xs = [] := List.length_eq_zero_iff.mp l1.symm
      subst e2
      exact c.val st hy'
    · subst e
      have e2 : ys = [] := List.length_eq_zero_iff.mp l2.symm
      subst e2
      rw [List.append_nil] at c
      exact c.val st hx'
  · cases hx.int; cases hy.int; cases e
    exact op_sub pins s σ' H _ _ v u Q I rx ry ⟨_, _, rfl, rfl, c.val st (.int _)⟩
  · rename_i i j
    obtain ⟨hz, e⟩ := ned_some e
    cases hx.int; cases hy.int; cases e
    obtain ⟨t, rfl⟩ := rx
    obtain ⟨t', rfl⟩ := ry
    exact mul_int ⟨.int _, H, I.tok _, ⟨_, rfl⟩, c.val st (.int _)⟩ (mulOk_ok hz)
  · rename_i xs k
    obtain ⟨hz, e⟩ := ned_some e
    cases hy.int; cases e
    obtain ⟨a, vs, rfl, h1, h2⟩ := hx.list st.sl.sub
    have hz' := of_decide_eq_true hz
    exact op_repG pins s σ' H _ _ v u Q I rx ry ⟨a, vs, k, rfl, rfl, h1, ⟨hz'.1, hz'.2.1, by rw [h2.length]; exact hz'.2.2⟩, fun p hp => c.own st (h2.rep k.toNat) hp⟩
  · rename_i i j
    obtain ⟨hz, e⟩ := ned_some e
    rw [Bool.and_eq_true] at hz
    cases hx.int; cases hy.int; cases e
    obtain ⟨t, rfl⟩ := rx
    obtain ⟨t', rfl⟩ := ry
    exact floordiv_int (of_decide_eq_true hz.1) ⟨.int _, H, I.tok _, ⟨_, rfl⟩, c.val st (.int _)⟩ (.inl (by simpa using hz.2))
  · rename_i i j
    obtain ⟨hz, e⟩ := ned_some e
    cases hx.int; cases hy.int; cases e
    exact op_modN pins s σ' H _ _ v u Q I rx ry ⟨_, _, rfl, rfl, of_decide_eq_true hz, c.val st (.int _)⟩
  · rename_i i j
    obtain ⟨hz, e⟩ := ned_some e
    cases hx.int; cases hy.int; cases e
    have hz' : 0 ≤ j ∧ j ≤ 1000000 ∧ i.natAbs < 2 ^ 64 := of_decide_eq_true hz
    exact op_pow pins s σ' H _ _ v u Q I rx ry ⟨_, _, rfl, rfl, hz', c.val st (.int _)⟩
  · cases e

/-! ### comparisons -/
theorem eq_ok {pins : List (Addr × Obj)} {σ : L2.St} {H : Hp} {s : Shared} {d e : D} {x y : V} {v u : Value} {c : Bool} (hu : X.A.units + 64 < cLine) (I : Inv X pins σ H s) (rx : RelV x v) (ry : RelV y u) (hx : Rp X.K H x d) (hy : Rp X.K H y e) (h : eqD d e = some c)
    {E : Value → Shared → Prop} {Q : Value → Shared → Prop} (q : Q (.bool c) s) : wpAny (model X.prog X.w) X.A (compareOp .Eq v u) Q E s := by
  unfold eqD at h
  split at h
  · rename_i xs
    cases h
    obtain ⟨a, vs, rfl, h1, h2⟩ := hx.listAt
    obtain ⟨b, ws, rfl, h3, h4⟩ := hy.listAt
    cases h4
    cases rx
    cases ry
    obtain ⟨its, r, p1, _⟩ := I.list h1
    obtain ⟨its2, r2, p2, _⟩ := I.list h3
    cases r2
    cases xs with
    | nil =>
      cases h2
      cases r
      exact SeqAt.compareEq_shaped (Reads.list (o := p1.choose) (vs := #[]) p1.choose_spec.choose_spec.1 p1.choose_spec.choose_spec.2.1 p1.choose_spec.choose_spec.2.2.2 .nil) (Reads.list (o := p2.choose) (vs := #[]) p2.choose_spec.choose_spec.1 p2.choose_spec.choose_spec.2.1 p2.choose_spec.choose_spec.2.2.2 .nil) (by rfl) (by rfl) hu (by simpa [PyData.eqv, PyData.eqvAll] using q)
    | cons d ds =>
      cases h2
      cases r
      exact SeqAt.eq_list_lengthsAt p1.isList p2.isList (by simp) (by omega) q
  · split at h
    · rename_i hs
      cases h
      rw [Bool.and_eq_true] at hs
      obtain ⟨as, r1⟩ := Rp.reads0 I _ x v (noDict_of_shaped hs.1) hx rx
      obtain ⟨bs, r2⟩ := Rp.reads0 I _ y u (noDict_of_shaped hs.2) hy ry
      exact SeqAt.compareEq_shaped r1 r2 hs.1 hs.2 hu q
    · cases h
theorem ne_ok {pins : List (Addr × Obj)} {σ : L2.St} {H : Hp} {s : Shared} {d e : D} {x y : V} {v u : Value} {c : Bool} (hu : X.A.units + 64 < cLine) (I : Inv X pins σ H s) (rx : RelV x v) (ry : RelV y u) (hx : Rp X.K H x d) (hy : Rp X.K H y e) (h : eqD d e = some c)
    {E : Value → Shared → Prop} {Q : Value → Shared → Prop} (q : Q (.bool (!c)) s) : wpAny (model X.prog X.w) X.A (compareOp .NotEq v u) Q E s := by
  unfold eqD at h
  split at h
  · rename_i xs
    cases h
    obtain ⟨a, vs, rfl, h1, h2⟩ := hx.listAt
    obtain ⟨b, ws, rfl, h3, h4⟩ := hy.listAt
    cases h4
    cases rx
    cases ry
    obtain ⟨its, r, p1, _⟩ := I.list h1
    obtain ⟨its2, r2, p2, _⟩ := I.list h3
    cases r2
    cases xs with
    | nil =>
      cases h2
      cases r
      exact SeqAt.compareNe_shaped (Reads.list (o := p1.choose) (vs := #[]) p1.choose_spec.choose_spec.1 p1.choose_spec.choose_spec.2.1 p1.choose_spec.choose_spec.2.2.2 .nil) (Reads.list (o := p2.choose) (vs := #[]) p2.choose_spec.choose_spec.1 p2.choose_spec.choose_spec.2.1 p2.choose_spec.choose_spec.2.2.2 .nil) (by rfl) (by rfl) hu (by simpa [PyData.eqv, PyData.eqvAll] using q)
    | cons d ds =>
      cases h2
      cases r
      exact SeqAt.RcNeAt.lists_lengths p1.isList p2.isList (by simp) (by omega) _ _ _ _ q
  · split at h
    · rename_i hs
      cases h
      rw [Bool.and_eq_true] at hs
      obtain ⟨as, r1⟩ := Rp.reads0 I _ x v (noDict_of_shaped hs.1) hx rx
      obtain ⟨bs, r2⟩ := Rp.reads0 I _ y u (noDict_of_shaped hs.2) hy ry
      exact SeqAt.compareNe_shaped r1 r2 hs.1 hs.2 hu q
    · cases h
theorem non_iff {F H : Hp} {K : PySem.W.Frag} {x : V} {d : D} (h : See K F H x d) : decide (x = .non) = (match d with | .none => true | _ => false) := by
  rcases h with h | ⟨a, xs, ds, rfl, rfl, _, _⟩
  · cases h <;> rfl
  · rfl
def rCmp (K : PySem.W.Frag) (o : Cop) : R2 := fun x y H Q => ∃ (F : Hp) (a b : D) (c : Bool), Sub F H ∧ See K F H x a ∧ See K F H y b ∧ cmpD o a b = some c ∧ Q (.bl c) H
theorem op_cmp (hu : X.A.units + 65 < cLine) (o : Cop) : OpR X (compareOp o.ast) (rCmp X.K o) := by
  intro pins s σ H x y v u Q I rx ry h
  obtain ⟨F, a, b, c, sb, hx, hy, e, q⟩ := h
  have fin : EP X pins σ Q (.bool c) s := ⟨.bl c, H, I, rfl, q⟩
  cases o with
  | eq => exact eq_ok (by omega) I rx ry (hx.at sb) (hy.at sb) e fin
  | ne =>
    have e : (eqD a b).map (fun c => !c) = some c := e
    cases hz : eqD a b with
    | none => rw [hz] at e; cases e
    | some k =>
      rw [hz] at e
      cases e
      exact ne_ok (by omega) I rx ry (hx.at sb) (hy.at sb) hz fin
  | lt =>
    simp only [cmpD] at e
    split at e
    · cases hx.int; cases hy.int; cases e
      exact op_lt pins s σ H _ _ v u Q I rx ry ⟨_, _, rfl, rfl, q⟩
    · cases e
  | le =>
    simp only [cmpD] at e
    split at e
    · cases hx.int; cases hy.int; cases e
      exact op_le pins s σ H _ _ v u Q I rx ry ⟨_, _, rfl, rfl, q⟩
    · cases e
  | gt =>
    simp only [cmpD] at e
    split at e
    · cases hx.int; cases hy.int; cases e
      exact op_gt pins s σ H _ _ v u Q I rx ry ⟨_, _, rfl, rfl, q⟩
    · cases e
  | ge =>
    simp only [cmpD] at e
    split at e
    · cases hx.int; cases hy.int; cases e
      exact op_ge pins s σ H _ _ v u Q I rx ry ⟨_, _, rfl, rfl, q⟩
    · cases e
  | is =>
    simp only [cmpD] at e
    split at e
    · have hn := non_iff hy
      simp only [decide_eq_true_eq] at hn
      subst hn
      have hm := non_iff hx
      refine op_isN pins s σ H x _ v u Q I rx ry ⟨rfl, ?_⟩
      rw [hm]
      cases e
      cases a <;> exact q
    · cases e
  | isn =>
    simp only [cmpD] at e
    split at e
    · have hn := non_iff hy
      simp only [decide_eq_true_eq] at hn
      subst hn
      have hm := non_iff hx
      refine op_notN pins s σ H x _ v u Q I rx ry ⟨rfl, ?_⟩
      rw [hm]
      cases e
      cases a <;> exact q
    · cases e
  | in_ =>
    simp only [cmpD] at e
    split at e
    · unfold inD at e
      split at e
      · rename_i hs
        cases e
        rw [Bool.and_eq_true] at hs
        obtain ⟨as, r1⟩ := Rp.reads0 I _ x v (noDict_of_shaped hs.1) (hx.at sb) rx
        obtain ⟨bs, r2⟩ := Rp.reads0 I _ y u (noDict_of_shaped hs.2) (hy.at sb) ry
        exact SeqAt.in_list_reads r2 r1 (SeqAt.canLay_of_shaped hs.2) (SeqAt.canLay_of_shaped hs.1) (room_in_shaped hs.1 hu) fin
      · cases e
    · cases e
  | nin =>
    simp only [cmpD] at e
    split at e
    · unfold inD at e
      split at e
      · rename_i hs
        cases e
        rw [Bool.and_eq_true] at hs
        obtain ⟨as, r1⟩ := Rp.reads0 I _ x v (noDict_of_shaped hs.1) (hx.at sb) rx
        obtain ⟨bs, r2⟩ := Rp.reads0 I _ y u (noDict_of_shaped hs.2) (hy.at sb) ry
        exact SeqAt.notIn_list_reads r2 r1 (SeqAt.canLay_of_shaped hs.2) (SeqAt.canLay_of_shaped hs.1) (room_in_shaped hs.1 hu) fin
      · cases e
    · cases e
theorem isEmpty_len {α β : Type} : ∀ {xs : List α} {ys : List β}, xs.length = ys.length → xs.isEmpty = ys.isEmpty
  | [], [], _ => rfl
  | _ :: _, _ :: _, _ => rfl
  | [], _ :: _, h => by cases h
  | _ :: _, [], h => by cases h
theorem tru_see {K : PySem.W.Frag} {F H : Hp} {x : V} {d : D} {c : Bool} (sb : Sub F H) (h : See K F H x d) (e : truD d = some c) : TruV K x H c := by
  have h' := h.at sb
  cases h' with
  | non => cases e; rfl
  | bl b => cases e; rfl
  | int i => cases e; rfl
  | str s => cases e
  | lst h1 h2 =>
    cases e
    exact .inl ⟨_, h1, by rw [isEmpty_len h2.length]⟩
  | tup h1 h2 =>
    cases e
    exact .inr (.inl ⟨_, h1, by rw [isEmpty_len h2.length]⟩)
  | dct _ _ => cases e
end
end Mp

end

section
namespace Mp
open PySem PySem.Spec PyProof.Rows L2

section
variable {X : Cx} {n : Nat} {io : Option Nat}
/-! ### built-in calls -/
def Bi.val : Bi → Value
  | .len => .builtin "len"
  | .abs => .builtin "abs"
  | .int => .type "int"
  | .min2 => .builtin "min"
  | .max2 => .builtin "max"
  | .tuple => .type "tuple"
  | .list => .type "list"
  | .divmod => .builtin "divmod"
  | .repr => .builtin "repr"
  | .all => .builtin "all"
  | .any => .builtin "any"
  | .sum => .builtin "sum"
  | .gcd => .builtin "math.gcd"
  | .bool => .type "bool"
def SeeAll (K : PySem.W.Frag) (F H : Hp) : List V → List D → Prop
  | [], [] => True
  | v :: vs, d :: ds => See K F H v d ∧ SeeAll K F H vs ds
  | _, _ => False
theorem SeeAll.one {K : PySem.W.Frag} {F H : Hp} {xs : List V} {d : D} (h : SeeAll K F H xs [d]) : ∃ x, xs = [x] ∧ See K F H x d := by
  match xs, h with
  | [x], h => exact ⟨x, rfl, h.1⟩
theorem SeeAll.two {K : PySem.W.Frag} {F H : Hp} {xs : List V} {d e : D} (h : SeeAll K F H xs [d, e]) : ∃ x y, xs = [x, y] ∧ See K F H x d ∧ See K F H y e := by
  match xs, h with
  | [x, y], h => exact ⟨x, y, rfl, h.1, h.2.1⟩
theorem bools_at {K : PySem.W.Frag} {F : Hp} : ∀ {ds : List D} {vs : List V} {bs : List Bool}, RpAll K F vs ds → boolsD ds = some bs → vs = bs.map V.bl
  | [], _, _, h, e => by cases h; cases e; rfl
  | d :: ds, _, bs, h, e => by
    cases h with
    | cons h r =>
      cases d with
      | bool b =>
        cases h
        have e : (boolsD ds).map (b :: ·) = some bs := e
        cases q : boolsD ds with
        | none => rw [q] at e; cases e
        | some cs =>
          rw [q] at e
          cases e
          rw [bools_at r q]
          rfl
      | _ => cases e
theorem ints_at {K : PySem.W.Frag} {F : Hp} : ∀ {ds : List D} {vs : List V} {bs : List Int}, RpAll K F vs ds → intsD ds = some bs → vs = bs.map V.int
  | [], _, _, h, e => by cases h; cases e; rfl
  | d :: ds, _, bs, h, e => by
    cases h with
    | cons h r =>
      cases d with
      | int b =>
        cases h
        have e : (intsD ds).map (b :: ·) = some bs := e
        cases q : intsD ds with
        | none => rw [q] at e; cases e
        | some cs =>
          rw [q] at e
          cases e
          rw [ints_at r q]
          rfl
      | _ => cases e
theorem call_repr_all {pins : List (Addr × Obj)} {σ : L2.St} {H : Hp} {s : Shared} {x : V} {u : Value} {d : D} {Q : VK} (G : Gd X n) (sm : SmB X.base) (I : Inv X pins σ H s) (hx : Rp X.K H x d) (rx : RelV x u) (h1 : d.showable = true) (h3 : d.depth ≤ 100) (h4 : d.shown.length ≤ sizeLine)
    (q : Q (.str d.shown) H) : wpAny (model X.prog X.w) X.A (call (.builtin "repr") [u]) (EP X pins σ Q) X.xe s := by
  have hu := G.room.un
  have big : ∀ {a : Addr} {as : List Addr}, Reads s.heap (.ref a) d as → sysModules ∉ as → wpAny (model X.prog X.w) X.A (call (.builtin "repr") [.ref a]) (EP X pins σ Q) X.xe s := fun {a as} r hn =>
    repr_of_reads' r h1 (fun _ => hn) G.grd (by omega) (fun _ _ e => e) (fun h' u tk hk => ⟨.str d.shown, H, I.kept (t' := tk) hk, ⟨_, rfl⟩, q⟩) h4
  obtain ⟨as, r, hn⟩ := Rp.reads I sm d x u hx rx
  cases r with
  | none => exact PySem.P.repr_of_none ⟨.str _, H, I.tok _, ⟨_, rfl⟩, by simpa only [PyData.shown] using q⟩
  | bool b => exact PySem.P.repr_of_bool ⟨.str _, H, I.tok _, ⟨_, rfl⟩, by simpa only [PyData.shown] using q⟩
  | int i t => exact PySem.P.repr_of_int (by simpa [PyData.showable] using h1) ⟨.str _, H, I.tok _, ⟨_, rfl⟩, by simpa only [PyData.shown] using q⟩
  | str x t => exact PySem.P.repr_of_str ⟨.str _, H, I.tok _, ⟨_, rfl⟩, by simpa only [PyData.shown] using q⟩ (by simpa only [PyData.shown] using h4)
  | list a b c e => exact big (.list a b c e) hn
  | tuple a b c e => exact big (.tuple a b c e) hn
  | dict a b c e f => exact big (.dict a b c e f) hn
def rBi (K : PySem.W.Frag) (io : Option Nat) (f : Bi) : List V → Hp → VK → Prop := fun xs H Q => ∃ (F : Hp) (ds : List D) (r : Rv) (_ : Opn K io H Q F r), SeeAll K F H xs ds ∧ biD f ds = some r
theorem call_bi (G : Gd X n) (sm : SmB X.base) (f : Bi) : CallR X f.val (rBi X.K io f) := by
  intro pins s σ' H xs us Q I rx h
  obtain ⟨F, ds, r, ⟨σ, F0, H0, en0, en, st, c⟩, hs, e⟩ := h
  unfold biD at e
  split at e
  · obtain ⟨x, rfl, hx⟩ := hs.one
    obtain ⟨a, vs, rfl, h1, h2⟩ := hx.list st.sl.sub
    cases e
    refine call_len_seq pins s σ' H _ us Q I rx ⟨a, vs, rfl, .inl h1, ?_⟩
    rw [h2.length]
    exact c.val st (.int _)
  · obtain ⟨x, rfl, hx⟩ := hs.one
    obtain ⟨a, vs, rfl, h1, h2⟩ := hx.tup.tupleAt
    cases e
    refine call_len_seq pins s σ' H _ us Q I rx ⟨a, vs, rfl, .inr (Sub.seqT st.sl.sub h1), ?_⟩
    rw [h2.length]
    exact c.val st (.int _)
  · obtain ⟨x, rfl, hx⟩ := hs.one
    cases hx.int
    cases e
    exact call_abs pins s σ' H _ us Q I rx ⟨_, rfl, c.val st (.int _)⟩
  · obtain ⟨x, rfl, hx⟩ := hs.one
    cases hx.int
    cases e
    exact call_int1 pins s σ' H _ us Q I rx (.inl ⟨_, rfl, c.val st (.int _)⟩)
  · obtain ⟨x, rfl, hx⟩ := hs.one
    cases hx.bool
    cases e
    exact call_int1 pins s σ' H _ us Q I rx (.inr ⟨_, rfl, c.val st (.int _)⟩)
  · obtain ⟨x, rfl, hx⟩ := hs.one
    cases hx.int
    cases e
    exact call_bool1 pins s σ' H _ us Q I rx (.inl ⟨_, rfl, c.val st (.bl _)⟩)
  · obtain ⟨x, rfl, hx⟩ := hs.one
    cases hx.bool
    cases e
    exact call_bool1 pins s σ' H _ us Q I rx (.inr ⟨_, rfl, c.val st (.bl _)⟩)
  · obtain ⟨x, y, rfl, hx, hy⟩ := hs.two
    cases hx.int; cases hy.int
    cases e
    exact call_min2 G.calm pins s σ' H _ us Q I rx ⟨_, _, rfl, c.val st (.int _)⟩
  · obtain ⟨x, y, rfl, hx, hy⟩ := hs.two
    cases hx.int; cases hy.int
    cases e
    exact call_max2 G.calm pins s σ' H _ us Q I rx ⟨_, _, rfl, c.val st (.int _)⟩
  · obtain ⟨x, rfl, hx⟩ := hs.one
    obtain ⟨a, vs, rfl, h1, h2⟩ := hx.list st.sl.sub
    cases e
    exact call_tuple_of pins s σ' H _ us Q I rx ⟨a, vs, rfl, .inl ⟨h1, fun p hp => c.tup st h2 hp⟩⟩
  · obtain ⟨x, rfl, hx⟩ := hs.one
    have hx' := hx.tup
    obtain ⟨a, vs, rfl, h1, h2⟩ := hx'.tupleAt
    cases e
    exact call_tuple_of pins s σ' H _ us Q I rx ⟨a, vs, rfl, .inr ⟨Sub.seqT st.sl.sub h1, c.val st hx'⟩⟩
  · obtain ⟨x, rfl, hx⟩ := hs.one
    obtain ⟨a, vs, rfl, h1, h2⟩ := hx.list st.sl.sub
    cases e
    exact call_list_of pins s σ' H _ us Q I rx ⟨a, vs, rfl, .inl h1, fun p hp => c.own st h2 hp⟩
  · obtain ⟨x, rfl, hx⟩ := hs.one
    obtain ⟨a, vs, rfl, h1, h2⟩ := hx.tup.tupleAt
    cases e
    exact call_list_of pins s σ' H _ us Q I rx ⟨a, vs, rfl, .inr (Sub.seqT st.sl.sub h1), fun p hp => c.own st h2 hp⟩
  · obtain ⟨x, y, rfl, hx, hy⟩ := hs.two
    cases hx.int; cases hy.int
    obtain ⟨hz, e⟩ := ned_some e
    cases e
    have hz' := of_decide_eq_true hz
    exact call_divmod pins s σ' H _ us Q I rx ⟨_, _, rfl, hz', fun p hp => c.tup st (.cons (.int _) (.cons (.int _) .nil)) hp⟩
  · rename_i d
    obtain ⟨x, rfl, hx⟩ := hs.one
    obtain ⟨hz, e⟩ := ned_some e
    cases e
    simp only [Bool.and_eq_true, Bool.not_eq_true', decide_eq_true_eq] at hz
    obtain ⟨⟨z1, z3⟩, z4⟩ := hz
    obtain ⟨u, rfl, r1⟩ := vals1 rx
    exact call_repr_all G sm I (hx.at st.sl.sub) r1 z1 z3 (okLen_le z4) (c.val st (.str _))
  · rename_i xs
    obtain ⟨x, rfl, hx⟩ := hs.one
    obtain ⟨a, vs, rfl, h1, h2⟩ := hx.list st.sl.sub
    split at e
    · rename_i bs q
      cases e
      have e2 := bools_at h2 q
      subst e2
      exact cr_all G.calm pins s σ' H _ us Q I rx ⟨a, bs, rfl, h1, c.val st (.bl _)⟩
    · cases e
  · rename_i xs
    obtain ⟨x, rfl, hx⟩ := hs.one
    obtain ⟨a, vs, rfl, h1, h2⟩ := hx.list st.sl.sub
    split at e
    · rename_i bs q
      cases e
      have e2 := bools_at h2 q
      subst e2
      exact cr_any G.calm pins s σ' H _ us Q I rx ⟨a, bs, rfl, h1, c.val st (.bl _)⟩
    · cases e
  · rename_i xs
    obtain ⟨x, rfl, hx⟩ := hs.one
    obtain ⟨a, vs, rfl, h1, h2⟩ := hx.list st.sl.sub
    split at e
    · rename_i bs q
      cases e
      have e2 := ints_at h2 q
      subst e2
      exact cr_sum G.calm pins s σ' H _ us Q I rx ⟨a, bs, rfl, h1, c.val st (.int _)⟩
    · cases e
  · obtain ⟨x, y, rfl, hx, hy⟩ := hs.two
    cases hx.int; cases hy.int
    cases e
    exact cr_gcd pins s σ' H _ us Q I rx ⟨_, _, rfl, c.val st (.int _)⟩
  · cases e
end
end Mp

end

section
set_option maxHeartbeats 1000000
namespace L2
open PySem PySem.Spec PyProof.Rows
/-- the ends, where the name at i goes -/
def goneE (i : Nat) (D : Ends) : Ends := { nx := fun σ' H' => D.nx (σ'.set i none) H', rt := D.rt, bk := fun σ' H' => D.bk (σ'.set i none) H', ct := fun σ' H' => D.ct (σ'.set i none) H' }
abbrev TX := Addr → Value → Option Addr → TS
/-- what several clauses wish of an exception of the body -/
def wHds (K : PySem.W.Frag) (Wout : WX) (D : Ends) : List (Value × Option Nat × TX) → WX
  | [] => Wout
  | (c, oi, ts) :: l => fun cls d σ H => ∃ b, PySem.W.exmOne K cls c = some b ∧ (b = true → ∀ a, H a = none → match oi with
      | none => ts a cls d D σ H
      | some i => ts a cls d (goneE i D) (σ.set i (some (.ref a))) H) ∧ (b = false → wHds K Wout D l cls d σ H)
inductive HdsA (X : Cx) : List ExceptHandler → List (Value × Option Nat × TX) → Prop
  | nil : HdsA X [] []
  | bare {x : Str} {c : Value} {ts : TX} {b₀ : Stmt} {suite : List Stmt} {np pos' : Pos} {hds : List ExceptHandler} {l : List (Value × Option Nat × TX)} (hc : Names X x c)
      (hsu : ∀ (a : Addr) (oe : Obj) (cls : Value) (d : Option Addr) (pn : List (Addr × Obj)), Zc cls d oe → (∃ vs, oe.data = .fields vs) → PSs (X.suite a ((a, oe) :: pn)) (b₀ :: suite) (ts a cls d)) (r : HdsA X hds l) :
      HdsA X (.ExceptHandler (some (.Name x np)) none (b₀ :: suite) pos' :: hds) ((c, none, ts) :: l)
  | named {x n : Str} {c : Value} {i : Nat} {ts : TX} {b₀ : Stmt} {suite : List Stmt} {np pos' : Pos} {hds : List ExceptHandler} {l : List (Value × Option Nat × TX)} (hc : Names X x c) (hi : X.N[i]? = some n) (hln : X.env.kindOf n = some .local)
      (hsu : ∀ (a : Addr) (oe : Obj) (cls : Value) (d : Option Addr) (pn : List (Addr × Obj)), Zc cls d oe → (∃ vs, oe.data = .fields vs) → PSs (X.suite a ((a, oe) :: pn)) (b₀ :: suite) (ts a cls d)) (r : HdsA X hds l) :
      HdsA X (.ExceptHandler (some (.Name x np)) (some n) (b₀ :: suite) pos' :: hds) ((c, some i, ts) :: l)
section
variable {X : Cx} {body : List Stmt} {h₀ : ExceptHandler} {hds : List ExceptHandler} {l : List (Value × Option Nat × TX)} {pos : Pos} {tb : WX → TS} {Wout : WX}
theorem ps_tryA (hs : X.stack = X.env :: X.outer) (hf : X.env.frame = some X.env.locals) (hN : X.N.Nodup) (tk : Takes X Wout)
    (hb : ∀ (W : WX) (pn : List (Addr × Obj)) (xe : Value → Shared → Prop), Takes (X.tr pn xe) W → PassesOwn (model X.prog X.w) X.A X.env xe → PSs (X.tr pn xe) body (tb W))
    (hh : HdsA X (h₀ :: hds) l) : PS X (.Try body (h₀ :: hds) [] [] pos) (fun D σ H => tb (wHds X.K Wout D l) D σ H) := by
  refine ⟨fun pins s σ H D I h => ?_⟩
  have ok := I.ok
  have hfr : X.A.frames = some (X.env :: X.outer) := by rw [ok.frames, hs]
  refine wpAny_Try_except ?_
  refine wpAny_mono ((hb (wHds X.K Wout D l) (X.pn ++ pins) (fun e s₁ => wpAny (model X.prog X.w) X.A (noteFrame e X.env) (fun _ s₂ => wpAny (model X.prog X.w) X.A (setFlight e none) (fun _ s₃ =>
    wpAny (model X.prog X.w) X.A (handleBy e X.env (h₀ :: hds)) (SP X pins D) X.xe s₃) X.xe s₂) X.xe s₁) (fun u s' xx => ?_) PassesOwn.looking).run [] s σ H D (I.toTry _) h) (fun f s1 hsp => ?_) (fun e s1 he => he)
  · -- the catch
    obtain ⟨a, B, sI, pins', σ', H', cls, d, rfl, J', nb, up, sky, na, os, ag, w⟩ := xx
    have J : Inv X pins σ' H' sI := J'.ofTry ok
    have sky' : Sky B (X.env :: X.outer) a (Zc cls d) X.env.locals s'.heap := by rw [← hs]; exact sky
    show wpAny (model X.prog X.w) X.A (noteFrame (.ref a) X.env) _ _ _
    refine Sky.land Zc.steady hfr hf sky' fun h3 fl3 up3 => ?_
    have J3 : Inv X pins σ' H' { s' with heap := h3 } := J.landed nb fl3.1 (up.trans up3) os ag
    obtain ⟨oe3, vs3, he3, hz3, hd3⟩ := fl3.there
    have notFr : ∀ {h : Heap} {o : Obj} {vs : Array Value}, h.FunFrames B (X.env :: X.outer) → h.get? a = some o → o.data = .fields vs → a ∉ frs (X.env :: X.outer) := fun {h o vs} ff e dd hm => by
      obtain ⟨_, o', e', hnf⟩ := ff.mem hm
      rw [e] at e'; cases e'
      exact hnf _ dd
    have nfr := notFr fl3.2.2.1 he3 hd3
    have nL : a ≠ X.env.locals := fun z => nfr (List.mem_filterMap.mpr ⟨X.env, List.mem_cons_self, by rw [hf, z]⟩)
    have nF : a ∉ X.fs := fun hm => by
      obtain ⟨e, he, q⟩ := List.mem_filterMap.mp hm
      exact nfr (List.mem_filterMap.mpr ⟨e, List.mem_cons_of_mem _ he, q⟩)
    have S3 := J3.suite he3 hd3 na nL nF
    have LT : PySem.W.Looks (model X.prog X.w) h3 (typeOf (.ref a)) cls := fun A Q E s k q => wpAny_typeOf_ref (k _ _ he3) (by rw [hz3.1]; exact q)
    have test : ∀ {x : Str} {c : Value} {np : Pos} (hc : Names X x c) {Q : Value → Shared → Prop} {E : Value → Shared → Prop}, Q c { s' with heap := h3 } → wpAny (model X.prog X.w) (X.A.mark (some (.ref a))) (eval (.Name x np) X.env) Q E { s' with heap := h3 } := fun {x c np} hc {Q E} q => by
      obtain ⟨hg, hdbg, hm | ⟨hm, hv, hnn⟩⟩ := hc
      · exact ld_glob (X := X.suite a ((a, oe3) :: (X.pn ++ pins))) S3 hg hm q hdbg
      · exact ld_blt (X := X.suite a ((a, oe3) :: (X.pn ++ pins))) S3 hg hm hv q hnn hdbg
    have go : ∀ {hds' : List ExceptHandler} {l' : List (Value × Option Nat × TX)}, HdsA X hds' l' → wHds X.K Wout D l' cls d σ' H' →
        wpAny (model X.prog X.w) X.A (handleBy (.ref a) X.env hds') (SP X pins D) X.xe { s' with heap := h3 } := by
      intro hds' l' hk
      induction hk with
      | nil =>
        intro w
        refine wpAny_handleBy_nil ?_
        obtain ⟨k1, k2, k3, oe, vs, T, oT, ts', he, hz, hd, h1, hr⟩ := id fl3
        unfold PySem.passOn
        refine wpAny_bind (wpAny_field he hd h1 ?_)
        rw [if_neg (show ¬ ((Value.ref T == Value.none) = true) from by simp)]
        have fin : wpAny (model X.prog X.w) X.A (setFlight (.ref a) X.env.frame) (fun _ s4 => wpAny (model X.prog X.w) X.A (throw (.ref a) : Sem Flow) (SP X pins D) X.xe s4) X.xe { s' with heap := h3 } := by
          rw [hf]
          refine HandSPX.setFlight_upZ fl3 fun h4 hh4 up4 => wpAny_throw (tk _ _ ?_)
          exact ⟨a, B, sI, pins, σ', H', cls, d, rfl, J, nb, (up.trans up3).trans up4, .inr (.inr (by rw [hs]; exact hh4)), na, os, ag, w⟩
        first
          | exact wpAny_bind (wpAny_pure (wpAny_bind fin))
          | exact wpAny_bind fin
      | @bare x c ts b₀ suite np pos' hds2 l2 hc hsu r ih =>
        intro w
        obtain ⟨b, hb1, hyes, hno⟩ := w
        refine wpAny_handleBy_cons (codeAny_handlers_test ?_) (by intro q; cases q)
        have LM := PySem.W.exm_one (M := model X.prog X.w) (J3.kIn) LT hb1
        refine test hc (LM.here ?_)
        cases b with
        | true =>
          refine codeAny_handlers_suite ?_
          refine HandSPX.lands_againZ fl3 fun h4 fl4 up4 => ?_
          have J4 : Inv X pins σ' H' { s' with heap := h4 } := J.landed nb fl4.1 ((up.trans up3).trans up4) os ag
          obtain ⟨oe4, vs4, he4, hz4, hd4⟩ := fl4.there
          have S4 := J4.suite he4 hd4 na nL nF
          refine wpAny_mono ((hsu a oe4 cls d (X.pn ++ pins) hz4 ⟨_, hd4⟩).run [] _ _ H' _ S4 (hyes rfl a na)) (fun f s6 hsp => ?_) (fun _ _ z => False.elim z)
          cases f with
          | next =>
            obtain ⟨σ6, H6, S6, q6⟩ := hsp
            exact ⟨_, _, S6.unsuite ok, q6⟩
          | brk =>
            obtain ⟨σ6, H6, S6, q6⟩ := hsp
            exact ⟨_, _, S6.unsuite ok, q6⟩
          | cont =>
            obtain ⟨σ6, H6, S6, q6⟩ := hsp
            exact ⟨_, _, S6.unsuite ok, q6⟩
          | ret u =>
            obtain ⟨v6, σ6, H6, S6, r6, q6⟩ := hsp
            exact ⟨_, _, _, S6.unsuite ok, r6, q6⟩
        | false =>
          show wpAny _ X.A (handleBy (.ref a) X.env hds2) _ _ _
          exact ih (hno rfl)
      | @named x n c i ts b₀ suite np pos' hds2 l2 hc hi hln hsu r ih =>
        intro w
        obtain ⟨b, hb1, hyes, hno⟩ := w
        have hloc : Loc X.env.scope n := .inl hln
        refine wpAny_handleBy_cons (codeAny_handlers_test ?_) (by intro q; cases q)
        have LM := PySem.W.exm_one (M := model X.prog X.w) (J3.kIn) LT hb1
        refine test hc (LM.here ?_)
        cases b with
        | true =>
          refine codeAny_handlers_suite_as ?_
          refine HandSPX.lands_againZ fl3 fun h4 fl4 up4 => ?_
          have J4 : Inv X pins σ' H' { s' with heap := h4 } := J.landed nb fl4.1 ((up.trans up3).trans up4) os ag
          obtain ⟨oe4, vs4, he4, hz4, hd4⟩ := fl4.there
          have S4 := J4.suite he4 hd4 na nL nF
          refine store_ok (X := X.suite a ((a, oe4) :: (X.pn ++ pins))) (v := .ref a) S4 hN hi hloc rfl (fun s5 S5 => ?_) (.inr hln)
          refine wpAny_mono ((hsu a oe4 cls d (X.pn ++ pins) hz4 ⟨_, hd4⟩).run [] s5 _ H' _ S5 (hyes rfl a na)) (fun f s6 hsp => ?_) (fun _ _ z => False.elim z)
          have end_ : ∀ {σ6 : St} {H6 : Hp} {Q : Shared → Prop}, Inv (X.suite a ((a, oe4) :: (X.pn ++ pins))) [] σ6 H6 s6 → (∀ s7, Inv X pins (σ6.set i none) H6 s7 → Q s7) →
              wpAny (model X.prog X.w) X.A (do bindName X.env n .none; unbindBehindTheSuite X.env n pos') (fun _ s7 => Q s7) X.xe s6 := fun {σ6 H6 Q} S6 hq => gone_ok (S6.unsuite ok) hN hi hln hq
          cases f with
          | next =>
            obtain ⟨σ6, H6, S6, q6⟩ := hsp
            exact end_ S6 fun s7 J7 => ⟨_, _, J7, q6⟩
          | brk =>
            obtain ⟨σ6, H6, S6, q6⟩ := hsp
            exact end_ S6 fun s7 J7 => ⟨_, _, J7, q6⟩
          | cont =>
            obtain ⟨σ6, H6, S6, q6⟩ := hsp
            exact end_ S6 fun s7 J7 => ⟨_, _, J7, q6⟩
          | ret u =>
            obtain ⟨v6, σ6, H6, S6, r6, q6⟩ := hsp
            exact end_ S6 fun s7 J7 => ⟨_, _, _, J7, r6, q6⟩
        | false =>
          show wpAny _ X.A (handleBy (.ref a) X.env hds2) _ _ _
          exact ih (hno rfl)
    exact go hh w
  · cases f with
    | next =>
      obtain ⟨σ', H', J', q⟩ := hsp
      exact wpAny_execs_nil ⟨σ', H', J'.ofTry ok, q⟩
    | brk =>
      obtain ⟨σ', H', J', q⟩ := hsp
      exact ⟨σ', H', J'.ofTry ok, q⟩
    | cont =>
      obtain ⟨σ', H', J', q⟩ := hsp
      exact ⟨σ', H', J'.ofTry ok, q⟩
    | ret u =>
      obtain ⟨v, σ', H', J', r, q⟩ := hsp
      exact ⟨v, σ', H', J'.ofTry ok, r, q⟩
end
end L2

end

section
set_option maxHeartbeats 1000000
namespace L2
open PySem PySem.Spec PyProof.Rows
section
variable {X : Cx} {C : Addr} {bmB : List Value} {B newId initId : String}
/-- X(), X an own exception class without own __init__ -/
theorem pmk_own0 {x : Str} {p pos : Pos} (F : ExcBaseFacts B newId initId bmB) (q : PySem.W.excIn X.K C bmB newId = true) (gC : X.mg x = some (.ref C)) (kC : PySem.W.keepIn X.K (.ref C) = true) (r : Raises X (.ref C)) (hg : Gl X x)
    (hdb : (x == ("__debug__" : Str)) = false := by decide) : PMk X (.Call (.Name x p) [] [] pos) (fun _ H Q => Q (.ref C) none H) := by
  intro pins s σ H Q I h
  refine wpAny_Call_Name_kw (ld_glob I hg gC ?_ hdb)
  refine PySem.W.callWith_K0 I.kIn kC ?_
  show wpAny _ _ (call (.ref C) []) _ _ _
  obtain ⟨bm, N, nm, qn, bs, hdct, sn, sub, ab, col, dd, k0, k1, k2, k3, k5, mN, hC, hN, hni, T⟩ := exc_obj I.kIn q
  refine wpAny_call_exc_subT F T hC hN hni (fun h' e hm => ?_) (Nat.zero_le _)
  exact mk_of I hm r h (I.hok.gone hm.new)
end
end L2
namespace Mp
open PySem PySem.Spec PyProof.Rows L2
/-! ### what is asked of error classes -/
def veB : List Value := [.type "ValueError", .type "Exception", .type "BaseException", .type "object"]
structure KcOk (K : PySem.W.Frag) (mg : Str → Option Value) (c : Str) : Prop where
  at_ : mg c = some (.ref (He.ga K c))
  ex : ExcC K (He.ga K c)
  ty : PySem.W.typeIn K (.ref (He.ga K c)) = some (.type "type")
structure K0Ok (K : PySem.W.Frag) (mg : Str → Option Value) (c : Str) : Prop where
  at_ : mg c = some (.ref (He.ga K c))
  inn : PySem.W.excIn K (He.ga K c) veB "ValueError.__new__" = true
  kp : PySem.W.keepIn K (.ref (He.ga K c)) = true
  su : PySem.W.subIn K (.ref (He.ga K c)) (.type "BaseException") = some true
  ty : PySem.W.typeIn K (.ref (He.ga K c)) = some (.type "type")
def atB (K : PySem.W.Frag) (c : Str) : Bool := PySem.W.nsIn K mainGlobals c == some (some (.ref (He.ga K c)))
def kcB (K : PySem.W.Frag) (c : Str) : Bool := atB K c && (PySem.W.findIn K (.ref (He.ga K c)) "__getattribute__" == some (some (.builtin "BaseException.__getattribute__")) && (PySem.W.findIn K (.ref (He.ga K c)) "__getattr__" == some none &&
  (PySem.W.subIn K (.ref (He.ga K c)) (.type "BaseException") == some true && (PySem.W.hasDictIn K (He.ga K c) && (PySem.W.findIn K (.ref (He.ga K c)) "__class__" == some (some (.builtin "object.__class__")) &&
  (PySem.W.specialIn K (.builtin "object.__class__") "__get__" == some (some (.builtin "getset_descriptor.__get__")) && (PySem.W.takesIn K (.builtin "object.__class__") == some true && (PySem.W.mroIn K (He.ga K c) (.type "object") == some true &&
  PySem.W.typeIn K (.ref (He.ga K c)) == some (.type "type")))))))))
def k0B (K : PySem.W.Frag) (c : Str) : Bool := atB K c && (PySem.W.excIn K (He.ga K c) veB "ValueError.__new__" && (PySem.W.keepIn K (.ref (He.ga K c)) && (PySem.W.subIn K (.ref (He.ga K c)) (.type "BaseException") == some true && PySem.W.typeIn K (.ref (He.ga K c)) == some (.type "type"))))
def clB (K : PySem.W.Frag) (q : Str × Str × Bool) : Bool := PySem.W.exmOne K (.ref (He.ga K q.1)) (.ref (He.ga K q.2.1)) == some q.2.2 && PySem.W.kitOne K (.ref (He.ga K q.1)) (.ref (He.ga K q.2.1)) == some q.2.2
def ClOk (K : PySem.W.Frag) (q : Str × Str × Bool) : Prop := PySem.W.exmOne K (.ref (He.ga K q.1)) (.ref (He.ga K q.2.1)) = some q.2.2 ∧ PySem.W.kitOne K (.ref (He.ga K q.1)) (.ref (He.ga K q.2.1)) = some q.2.2
theorem clB_ok {K : PySem.W.Frag} {q : Str × Str × Bool} (h : clB K q = true) : ClOk K q := by
  unfold clB at h
  simp only [Bool.and_eq_true, beq_iff_eq] at h
  exact h
theorem kcB_ok {K : PySem.W.Frag} {h : Heap} {mg : Str → Option Value} (X : K.In h) (G : h.Ns mainGlobals mg) {c : Str} (b : kcB K c = true) : KcOk K mg c := by
  unfold kcB atB at b
  simp only [Bool.and_eq_true, beq_iff_eq] at b
  obtain ⟨h0, h1, h2, h3, h4, h5, h6, h7, h8, h9⟩ := b
  exact ⟨PySem.W.mg_of X G h0, ⟨h1, h2, h3, h4, h5, h6, h7, h8⟩, h9⟩
theorem k0B_ok {K : PySem.W.Frag} {h : Heap} {mg : Str → Option Value} (X : K.In h) (G : h.Ns mainGlobals mg) {c : Str} (b : k0B K c = true) : K0Ok K mg c := by
  unfold k0B atB at b
  simp only [Bool.and_eq_true, beq_iff_eq] at b
  obtain ⟨h0, h1, h2, h3, h4⟩ := b
  exact ⟨PySem.W.mg_of X G h0, h1, h2, h3, h4⟩
end Mp

end

section
namespace Mp
open PySem PySem.Spec PyProof.Rows L2

section
variable {X : Cx} {n : Nat} {io : Option Nat} {K : PySem.W.Frag} {F H : Hp}
/-! ### isinstance -/
theorem See.ty {x : V} {d : D} (sb : Sub F H) (h : See K F H x d) : TyX K H x (.type (tyD d)) := by
  have h' := h.at sb
  cases h' with
  | non => exact .base .non
  | bl b => exact .base (.bl b)
  | int i => exact .base (.int i)
  | str x => exact .base (.str x)
  | lst h1 _ =>
    rcases h1 with (h1 | ⟨o, h1⟩) | ⟨o, its, n, h1, h2, _⟩
    · exact .base (.lst h1)
    · exact .base (.frz h1)
    · exact .kList h1 h2
  | tup h1 _ =>
    rcases h1 with (h1 | ⟨o, h1⟩) | ⟨o, its, n, h1, h2, _⟩
    · exact .base (.tup h1)
    · exact .fTuple h1
    · exact .kTuple h1 h2
  | dct h1 _ => exact .base (.dK h1)
theorem isi_many {d : D} {p : Pos} {k : Nat} : ∀ {ns : List (Pos × Tn)} {b : Bool}, isiD d (.many p k ns) = some b → PySem.W.kitAny K (.type (tyD d)) (ns.map fun q => Value.type q.2.name) = some b
  | [], b, h => by
    have e : some false = some b := h
    cases e
    rfl
  | q :: ns, b, h => by
    have h : (match kitB (tyD d) q.2.name with
      | some true => some true
      | some false => isiD d (.many p k ns)
      | none => none) = some b := h
    cases e : kitB (tyD d) q.2.name with
    | none => rw [e] at h; cases h
    | some c =>
      rw [e] at h
      rw [List.map_cons]
      cases c with
      | true =>
        cases h
        exact kitAny_cons (kit_ty e) (fun z => nomatch z) fun _ => rfl
      | false => exact kitAny_cons (kit_ty e) (fun _ => isi_many h) fun z => nomatch z

/-! ### items, cuts -/
theorem atI_get {xs : List V} {ds : List D} {k : Int} {d : D} (r : RpAll K F xs ds) (h : ixD ds k = some d) : ∃ v, atI xs k = some v ∧ Rp K F v d := by
  unfold ixD at h
  unfold atI
  rw [r.length]
  cases q : ixN ds.length k with
  | none => rw [q] at h; cases h
  | some j =>
    rw [q] at h
    exact r.get (show ds[j]? = some d from h)
theorem cut_rp {xs : List V} {ds : List D} (lo hi : Option Int) (r : RpAll K F xs ds) : RpAll K F (cutV xs lo hi) (cutD ds lo hi) := by
  unfold cutV cutD
  rw [r.length]
  exact (r.drop _).take _
def rIxA (K : PySem.W.Frag) : R2 := fun x y H Q => ∃ (F : Hp) (d : D) (k : Int) (e : D), Sub F H ∧ See K F H x d ∧ y = .int k ∧ ((∃ ds, d = .list ds ∧ ixD ds k = some e) ∨ ∃ ds, d = .tuple ds ∧ ixD ds k = some e) ∧ ∀ v, Rp K F v e → Q v H
theorem ix_any : IxR X (rIxA X.K) := by
  intro value slice pins s σ H x y v u Q I rx ry h hss
  obtain ⟨F, d, k, e, sb, hx, rfl, h, q⟩ := h
  rcases h with ⟨ds, rfl, h⟩ | ⟨ds, rfl, h⟩
  · obtain ⟨a, xs, rfl, h1, h2⟩ := hx.list sb
    obtain ⟨w, h3, h4⟩ := atI_get h2 h
    exact ix_list value slice pins s σ H _ _ v u Q I rx ry ⟨a, xs, k, w, rfl, rfl, h1, h3, q w h4⟩ hss
  · obtain ⟨a, xs, rfl, h1, h2⟩ := hx.tup.tupleAt
    obtain ⟨w, h3, h4⟩ := atI_get h2 h
    exact ix_tup value slice pins s σ H _ _ v u Q I rx ry ⟨a, xs, k, w, rfl, rfl, Sub.seqT sb h1, h3, q w h4⟩ hss
theorem sIx_whole {ds : List D} {lo hi : Option Int} (h : HT.sIx ds.length 0 lo = 0 ∧ HT.sIx ds.length ds.length hi = ds.length) : cutD ds lo hi = ds := by
  unfold cutD
  rw [h.1, h.2]
  simp
def rSl (K : PySem.W.Frag) (io : Option Nat) : V → Option Int → Option Int → Hp → VK → Prop := fun x lo hi H Q => ∃ (F : Hp) (d : D) (r : Rv) (_ : Opn K io H Q F r), See K F H x d ∧ slD d lo hi = some r
theorem sl_any : SlR X (rSl X.K io) := by
  intro pins s σ' H x v vl vu lo hi sl Q I rx hs pl pu h
  obtain ⟨F, d, r, ⟨σ, F0, H0, en0, en, st, c⟩, hx, e⟩ := h
  unfold slD at e
  split at e
  · rename_i ds
    cases e
    obtain ⟨a, xs, rfl, h1, h2⟩ := hx.list st.sl.sub
    exact sl_list pins s σ' H _ v vl vu lo hi sl Q I rx hs pl pu ⟨a, xs, rfl, h1, fun p hp => c.own st (cut_rp lo hi h2) hp⟩
  · rename_i ds
    cases e
    have hx' := hx.tup
    obtain ⟨a, xs, rfl, h1, h2⟩ := hx'.tupleAt
    refine sl_tupA pins s σ' H _ v vl vu lo hi sl Q I rx hs pl pu ⟨a, xs, rfl, Sub.seqT st.sl.sub h1, fun hw => ?_, fun _ p hp => c.tup st (cut_rp lo hi h2) hp⟩
    rw [h2.length] at hw
    rw [sIx_whole hw] at c
    exact c.val st hx'
  · cases e
end

/-! ### defs -/
/-- a def's promise, where no guard runs -/
structure FnG (P : Program) (w : World) (K : PySem.W.Frag) (mg : Str → Option Value) (base : Heap) (CX : CXT) (k : Nat) (f : Addr) (fd : FuncData) (ps : List Str) (sp : Sp) : Prop where
  len : ∀ vs H Q E, sp vs H Q E → vs.length = ps.length
  run : ∀ (A : Around) (outer : List Env) (s : Shared) (H : Hp) (args : Args) (us : List Value) (vs : List V) (Q : VK) (E : XK), Room k A → A.guards = some [] → Env0 P w K mg base A outer s H → BindsTo s fd args (ps.zip us) → Vals vs us → sp vs H Q E →
    codeAny (model P w) A (.call (.ref f) args) (CR CX outer P w H s Q E) s
/-- the in-and-out list of a call stands at oa; the arguments -/
inductive ArgsOk (K : PySem.W.Frag) (F H : Hp) : Option Nat → Option Addr → List V → List D → Prop
  | plain {vs : List V} {ds : List D} : RpAll K F vs ds → ArgsOk K F H none none vs ds
  | io {p : Nat} {a : Addr} {xs : List V} {es : List D} {v1 v2 : List V} {d1 d2 : List D} : d1.length = p → RpAll K F v1 d1 → RpAll K F v2 d2 → H a = some (.lst xs) → F a = none → RpAll K F xs es →
      ArgsOk K F H (some p) (some a) (v1 ++ .ref a :: v2) (d1 ++ .list es :: d2)
/-- behind a call -/
structure FnEnd (K : PySem.W.Frag) (F H : Hp) (oa : Option Addr) (F' H' : Hp) (l : List D) : Prop where
  mono : Sub F F'
  sub : Sub F' H'
  new : ∀ b, F' b ≠ none → F b ≠ none ∨ H b = none
  keep : ∀ b o, H b = some o → oa ≠ some b → H' b = some o
  io : ∀ a, oa = some a → ∃ xs, H' a = some (.lst xs) ∧ F' a = none ∧ RpAll K F' xs l
def RvEnd (K : PySem.W.Frag) (H F' H' : Hp) (v : V) : Rv → Prop
  | .val d => Rp K F' v d
  | .own ds => ∃ a xs, v = .ref a ∧ H' a = some (.lst xs) ∧ F' a = none ∧ RpAll K F' xs ds ∧ H a = none
/-- an own error: its class by name, its dict and what stands in it -/
def ExAt (K : PySem.W.Frag) (F' H' : Hp) (x : Exc) (cls : Value) (dd : Option Addr) : Prop :=
  cls = .ref (He.ga K x.cls) ∧ match x.arg with
    | none => dd = none
    | some q => ∃ dx v, dd = some dx ∧ H' dx = some (.xd [(q.1, v)]) ∧ Rp K F' v q.2
def spD (K : PySem.W.Frag) (io : Option Nat) (np : Nat) (φ : List D → Out) : Sp := fun vs H Q E => ∃ (F : Hp) (ds : List D) (oa : Option Addr), vs.length = np ∧ Sub F H ∧ ArgsOk K F H io oa vs ds ∧
  (φ ds).wp (fun q => ∀ F' H' v, FnEnd K F H oa F' H' q.2 → RvEnd K H F' H' v q.1 → Q v H') fun x l => ∀ F' H' cls dd, FnEnd K F H oa F' H' l → ExAt K F' H' x cls dd → E cls dd H'
def permV {α : Type} (pm : List Nat) (us ws : List α) : List α := ((permD (us ++ ws) pm).getD [])
/-- the text as the top has left it: the defs n calls deep keep their promises, the constants, the built-in names -/
structure Tx (P : Program) (w : World) (K : PySem.W.Frag) (mg : Str → Option Value) (base : Heap) (n : Nat) (wh : Wh) (fn cst : Nat → Str) (S : Sc) : Prop where
  fns : ∀ f, f < wh.nf → ∃ fa fd ps, ps.length = wh.np f ∧ FnG P w K mg base (L2.CX P w) n fa fd ps (spD K (S.sio f) (wh.np f) (S.Φ f)) ∧ mg (fn f) = some (.ref fa) ∧ PySem.W.keepIn K (.ref fa) = true ∧ Binds K fd ps [] ∧
    ∀ q ∈ wh.kb, q.1 = f → (∀ {us ws : List Value}, us.length = q.2.1 → ws.length = q.2.2.1.length → (permD (us ++ ws) q.2.2.2).isSome = true) ∧ KBn K fd ps q.2.1 q.2.2.1 (permV q.2.2.2) (permV q.2.2.2)
  csts : ∀ g, g < wh.nc → ∃ v u, mg (cst g) = some u ∧ RelV v u ∧ ∀ F, Rp K F v (S.cst g)
  bi : ∀ f : Bi, f ≠ .gcd → mg f.name = none
  ty : ∀ t : Tn, mg (Str.ofString t.name) = none
  oth : mg "isinstance" = none ∧ mg "range" = none ∧ mg "zip" = none ∧ mg "enumerate" = none
  gcd : wh.gcd = true → mg "gcd" = some (.builtin "math.gcd")
  sm : SmB base
  kc : ∀ c ∈ wh.ks, KcOk K mg c
  k0 : ∀ c ∈ wh.k0, K0Ok K mg c
  cl : ∀ q ∈ wh.cl, ClOk K q

section
variable {X : Cx} {n k : Nat} {io : Option Nat} {W : WX} {f : Addr} {fd : FuncData} {ps ks : List Str} {sp : Sp} {x : Str} {p pos : Pos} {e : Expr} {es : List Expr} {kws : List Keyword} {t tk : TA}
/-- the callee runs -/
theorem run_g {pins : List (Addr × Obj)} {σ : L2.St} {H : Hp} {s : Shared} {Q : VK} {us : List Value} {vs : List V} (F : FnG X.prog X.w X.K X.mg X.base (L2.CX X.prog X.w) k f fd ps sp) (hr : Room k X.A) (hg : X.A.guards = some []) (hb : Binds X.K fd ps [])
    (tk : Takes X W) (I : Inv X pins σ H s) (r : Vals vs us) (h : sp vs H Q fun cls d H' => W cls d σ H') : wpAny (model X.prog X.w) X.A (call (.ref f) us) (EP X pins σ Q) X.xe s := by
  have hl : (us ++ []).length = ps.length := by rw [List.append_nil, ← r.length]; exact F.len _ _ _ _ h
  have b := hb s us I.kIn hl
  rw [List.append_nil] at b
  refine wpAny_call (codeAny_mono (F.run X.A X.stack s H ⟨us, []⟩ us vs Q _ hr hg I.env0 b r h) fun r s' hq => ?_)
  cases r with
  | error e => exact tk e s' (XE.of_call I (fun _ _ _ h => h) hq)
  | ok fl =>
    cases fl with
    | ret u => exact I.after hq
    | next => exact False.elim hq
    | brk => exact False.elim hq
    | cont => exact False.elim hq
def tCallG (sp : Sp) (W : WX) (t : TA) : TE := fun σ H Q => t σ H fun vs H1 => sp vs H1 Q fun cls d H' => W cls d σ H'
theorem pe_callG (F : FnG X.prog X.w X.K X.mg X.base (L2.CX X.prog X.w) k f fd ps sp) (hr : Room k X.A) (hgd : X.A.guards = some []) (hg : Gl X x) (hm : X.mg x = some (.ref f)) (hk : PySem.W.keepIn X.K (.ref f) = true) (hb : Binds X.K fd ps []) (tk : Takes X W)
    (ha : PA X (e :: es) t) (hdb : (x == ("__debug__" : Str)) = false) (he : starEach (e :: es) X.env = (false, eval e X.env) :: starEach es X.env) (hpl : (backTo pos (starEach es X.env)).any (·.1) = false) :
    PE X (.Call (.Name x p) (e :: es) [] pos) (tCallG sp W t) := by
  refine ⟨fun pins s σ H Q I h => ?_⟩
  refine wpAny_Call_Name_kw (ld_glob I hg hm ?_ hdb)
  refine PySem.W.callWith_K (h₀ := X.base) I.ok.mod.kin hk (thn (ha.run pos pins s σ H _ I h) fun us s1 ⟨vs, H1, I1, r, q⟩ => ⟨I1.kIn, ?_⟩) he hpl
  exact run_g F hr hgd hb tk I1 r q
theorem run_gk {nu : Nat} {g : List Value → List Value → List Value} {gV : List V → List V → List V} {pins : List (Addr × Obj)} {σ : L2.St} {H : Hp} {s : Shared} {Q : VK} {us ws : List Value} {vs zs : List V} (F : FnG X.prog X.w X.K X.mg X.base (L2.CX X.prog X.w) k f fd ps sp) (hr : Room k X.A) (hg : X.A.guards = some []) (hb : KBn X.K fd ps nu ks g gV)
    (tk : Takes X W) (I : Inv X pins σ H s) (r : Vals vs us) (rz : Vals zs ws) (l1 : vs.length = nu) (l2 : zs.length = ks.length) (h : sp (gV vs zs) H Q fun cls d H' => W cls d σ H') : wpAny (model X.prog X.w) X.A (call (.ref f) us (ks.zip ws)) (EP X pins σ Q) X.xe s := by
  have r2 := hb.rel r rz
  refine wpAny_call (codeAny_mono (F.run X.A X.stack s H ⟨us, ks.zip ws⟩ (g us ws) (gV vs zs) Q _ hr hg I.env0 (hb.to s us ws I.kIn (r.length.symm.trans l1) (rz.length.symm.trans l2)) r2 h) fun r s' hq => ?_)
  cases r with
  | error e => exact tk e s' (XE.of_call I (fun _ _ _ h => h) hq)
  | ok fl =>
    cases fl with
    | ret u => exact I.after hq
    | next => exact False.elim hq
    | brk => exact False.elim hq
    | cont => exact False.elim hq
def tCallKG (n m : Nat) (sp : Sp) (gV : List V → List V → List V) (W : WX) (t tk : TA) : TE := fun σ H Q => t σ H fun vs H1 => tk σ H1 fun zs H2 => vs.length = n ∧ zs.length = m ∧ sp (gV vs zs) H2 Q fun cls d H' => W cls d σ H'
theorem pe_callKG {nu : Nat} {g : List Value → List Value → List Value} {gV : List V → List V → List V} (F : FnG X.prog X.w X.K X.mg X.base (L2.CX X.prog X.w) k f fd ps sp) (hr : Room k X.A) (hgd : X.A.guards = some []) (hg : Gl X x) (hm : X.mg x = some (.ref f)) (hk : PySem.W.keepIn X.K (.ref f) = true) (hb : KBn X.K fd ps nu ks g gV) (tx : Takes X W)
    (ha : PA X (e :: es) t) (hkw : PK X kws tk) (hall : (backToKw pos (keywordEach kws X.env)).all (·.1.isSome) = true) (hks : (backToKw pos (keywordEach kws X.env)).filterMap (·.1) = ks) (hdb : (x == ("__debug__" : Str)) = false)
    (he : starEach (e :: es) X.env = (false, eval e X.env) :: starEach es X.env) (hpl : ((backTo pos (starEach (e :: es) X.env)).any (·.1) || (backToKw pos (keywordEach kws X.env)).any (·.1.isNone)) = false) :
    PE X (.Call (.Name x p) (e :: es) kws pos) (tCallKG nu ks.length sp gV W t tk) := by
  refine ⟨fun pins s σ H Q I h => ?_⟩
  refine wpAny_Call_Name_kw (ld_glob I hg hm ?_ hdb)
  refine PySem.W.callWith_KW (h₀ := X.base) I.ok.mod.kin hk hall (thn (ha.run pos pins s σ H _ I h) fun us s1 ⟨vs, H1, I1, r, q⟩ => ?_) hpl he
  refine thn (hkw.run pos pins s1 σ H1 _ I1 q) fun ws s2 ⟨zs, H2, I2, rz, l1, l2, q2⟩ => ⟨I2.kIn, ?_⟩
  rw [hks]
  exact run_gk F hr hgd hb tx I2 r rz l1 l2 q2
theorem pe_callKG0 {nu : Nat} {g : List Value → List Value → List Value} {gV : List V → List V → List V} (F : FnG X.prog X.w X.K X.mg X.base (L2.CX X.prog X.w) k f fd ps sp) (hr : Room k X.A) (hgd : X.A.guards = some []) (hg : Gl X x) (hm : X.mg x = some (.ref f)) (hk : PySem.W.keepIn X.K (.ref f) = true) (hb : KBn X.K fd ps nu ks g gV) (tx : Takes X W)
    (hkw : PK X kws tk) (hall : (backToKw pos (keywordEach kws X.env)).all (·.1.isSome) = true) (hks : (backToKw pos (keywordEach kws X.env)).filterMap (·.1) = ks) (hdb : (x == ("__debug__" : Str)) = false)
    (hpl : ((backTo pos (starEach [] X.env)).any (·.1) || (backToKw pos (keywordEach kws X.env)).any (·.1.isNone)) = false) :
    PE X (.Call (.Name x p) [] kws pos) (tCallKG nu ks.length sp gV W tNil tk) := by
  refine ⟨fun pins s σ H Q I h => ?_⟩
  refine wpAny_Call_Name_kw (ld_glob I hg hm ?_ hdb)
  refine PySem.W.callWith_KW0 (h₀ := X.base) I.ok.mod.kin hk hall ?_ hpl
  refine thn (hkw.run pos pins s σ H _ I h) fun ws s2 ⟨zs, H2, I2, rz, l1, l2, q2⟩ => ⟨I2.kIn, ?_⟩
  rw [hks]
  exact run_gk (us := []) F hr hgd hb tx I2 .nil rz l1 l2 q2
end
end Mp

end

section
namespace Mp
open PySem PySem.Spec PyProof.Rows L2

/-! ### the shapes of the texts -/
section
variable {nm : Nm}
theorem star_ok {env : Env} {es : List Expr} : ∀ e : E, starEach (astE nm e :: es) env = (false, eval (astE nm e) env) :: starEach es env
  | .tmp e => star_ok e
  | .var .. | .frz .. | .mv .. | .pk .. | .int .. | .bl .. | .non .. | .str .. | .glob .. | .tup .. | .lst .. | .bin .. | .cmp .. | .cmp2 .. | .neg .. | .not .. | .and .. | .or .. | .ite .. | .ix .. | .sl .. | .no | .bi .. | .isi .. | .call .. | .callk .. | .comp .. => by
    simp only [astE] <;> rfl
  | .ext x as => by
    simp only [astE]
    cases x <;> rfl
theorem stars_ok {env : Env} {pos : Pos} : ∀ es : Es, (backTo pos (starEach (astEs nm es) env)).any (·.1) = false
  | .nil => rfl
  | .cons e es => by
    have h := stars_ok (env := env) (pos := pos) es
    show (backTo pos (starEach (astE nm e :: astEs nm es) env)).any (·.1) = false
    rw [star_ok]
    exact h
theorem plainIx_ok : ∀ e : E, PlainIx (astE nm e)
  | .tmp e => plainIx_ok e
  | .var .. | .frz .. | .mv .. | .pk .. | .int .. | .bl .. | .non .. | .str .. | .glob .. | .tup .. | .lst .. | .bin .. | .cmp .. | .cmp2 .. | .neg .. | .not .. | .and .. | .or .. | .ite .. | .ix .. | .sl .. | .no | .bi .. | .isi .. | .call .. | .callk .. | .comp .. => by
    simp only [astE] <;> exact fun _ _ => rfl
  | .ext x as => by
    simp only [astE]
    cases x <;> exact fun _ _ => rfl
theorem noSwap {t : Option Expr} {l : Nat} {env : Env} : ∀ e : E, isComp e = false → swapsWith (astE nm e) t l env = pure false
  | .tmp e, h => noSwap e h
  | .var .., _ | .frz .., _ | .mv .., _ | .pk .., _ | .int .., _ | .bl .., _ | .non .., _ | .str .., _ | .glob .., _ | .tup .., _ | .lst .., _ | .bin .., _ | .cmp .., _ | .cmp2 .., _ | .neg .., _ | .not .., _ | .and .., _ | .or .., _ | .ite .., _ | .ix .., _ | .sl .., _ | .no, _ | .bi .., _ | .isi .., _ | .call .., _ | .callk .., _ => by
    simp only [astE] <;> rfl
  | .ext x as, _ => by
    simp only [astE]
    cases x <;> rfl
  | .comp .., h => by cases h
theorem noSet {env : Env} {x : Value} : ∀ e : E, foldedSetIterable (astE nm e) env x = pure x
  | .tmp e => noSet e
  | .var .. | .frz .. | .mv .. | .pk .. | .int .. | .bl .. | .non .. | .str .. | .glob .. | .tup .. | .lst .. | .bin .. | .cmp .. | .cmp2 .. | .neg .. | .not .. | .and .. | .or .. | .ite .. | .ix .. | .sl .. | .no | .bi .. | .isi .. | .call .. | .callk .. | .comp .. => by
    simp only [astE] <;> rfl
  | .ext x as => by
    simp only [astE]
    cases x <;> rfl
theorem noSetIt {env : Env} {x : Value} : ∀ t : It, foldedSetIterable (astIt nm t) env x = pure x
  | .seq e => noSet e
  | .rng1 .. | .rng2 .. | .zip .. | .enum .. => by simp only [astIt] <;> rfl
theorem noMark {op : CmpOp} : ∀ e : E, behindInMarks op (astE nm e) = false
  | .tmp e => noMark e
  | .var .. | .frz .. | .mv .. | .pk .. | .int .. | .bl .. | .non .. | .str .. | .glob .. | .tup .. | .lst .. | .bin .. | .cmp .. | .cmp2 .. | .neg .. | .not .. | .and .. | .or .. | .ite .. | .ix .. | .sl .. | .no | .bi .. | .isi .. | .call .. | .callk .. | .comp .. => by
    simp only [astE] <;> rfl
  | .ext x as => by
    simp only [astE]
    cases x <;> rfl
/-- a test that is its value's truth -/
def plainT : E → Bool
  | .not .. | .and .. | .or .. | .ite .. | .cmp .. | .cmp2 .. | .tmp .. => false
  | _ => true
theorem plainT_ok {env : Env} : ∀ e : E, plainT e = true → ∀ whole, isTrue (astE nm e) env whole = (do let v ← whole; standAt (astE nm e).pos; holding [v] (truthy v))
  | .tmp e, h => by cases h
  | .not .., h | .and .., h | .or .., h | .ite .., h | .cmp .., h | .cmp2 .., h => by cases h
  | .var .., _ | .frz .., _ | .mv .., _ | .pk .., _ | .int .., _ | .bl .., _ | .non .., _ | .str .., _ | .glob .., _ | .tup .., _ | .lst .., _ | .bin .., _ | .neg .., _ | .ix .., _ | .sl .., _ | .no, _ | .bi .., _ | .isi .., _ | .call .., _ | .callk .., _ | .comp .., _ => by
    simp only [astE] <;> exact fun _ => rfl
  | .ext x as, _ => by
    simp only [astE]
    cases x <;> exact fun _ => rfl
end

/-! ### readings -/
section
variable {K : PySem.W.Frag} {io : Option Nat} {W : WX} {σ : L2.St} {F H F1 H1 F2 H2 : Hp} {en en1 en2 : En} {α β : Type}
/-- what is wanted of a worth, from a state on -/
def Wpx (K : PySem.W.Frag) (io : Option Nat) (W : WX) (σ : L2.St) (F H : Hp) (en : En) (r : R (α × En)) (P : α → Hp → Hp → En → Prop) : Prop :=
  r.wp (fun q => ∀ F' H', Stp K io σ F H en F' H' q.2 → P q.1 F' H' q.2) fun x e => ∀ F' H' cls dd, Stp K io σ F H en F' H' e → ExAt K F' H' x cls dd → W cls dd σ H'
theorem Wpx.seq {r : R (α × En)} {k : α × En → R (β × En)} {P : β → Hp → Hp → En → Prop} {P' : α → Hp → Hp → En → Prop} (h : Wpx K io W σ F H en (r.bind k) P) (st : Stp K io σ F H en F1 H1 en1)
    (f : ∀ a F2 H2 en2, Stp K io σ F1 H1 en1 F2 H2 en2 → Wpx K io W σ F H en (k (a, en2)) P → P' a F2 H2 en2) : Wpx K io W σ F1 H1 en1 r P' := by
  cases r with
  | bad => exact h
  | ex x e => exact fun F' H' cls dd s z => h F' H' cls dd (st.trans s) z
  | ok q =>
    obtain ⟨a, en2⟩ := q
    exact fun F2 H2 s => f a F2 H2 en2 s h
theorem Wpx.nest {γ : Type} {r : R (γ × En)} {k : γ × En → R (α × En)} {k2 : α × En → R (β × En)} {P : β → Hp → Hp → En → Prop} (h : Wpx K io W σ F H en ((r.bind k).bind k2) P) : Wpx K io W σ F H en (r.bind fun q => (k q).bind k2) P := by
  cases r <;> exact h
theorem Wpx.base {r : R (α × En)} {P P' : α → Hp → Hp → En → Prop} (h : Wpx K io W σ F H en r P) (st : Stp K io σ F H en F1 H1 en1) (f : ∀ a F2 H2 en2, Stp K io σ F1 H1 en1 F2 H2 en2 → P a F2 H2 en2 → P' a F2 H2 en2) : Wpx K io W σ F1 H1 en1 r P' := by
  unfold Wpx at h ⊢
  exact Res.wp_mono h (fun q h F' H' s => f _ _ _ _ s (h F' H' (st.trans s))) fun x e h F' H' cls dd s z => h F' H' cls dd (st.trans s) z
theorem Wpx.imp {r : R (α × En)} {P P' : α → Hp → Hp → En → Prop} (h : Wpx K io W σ F H en r P) (f : ∀ a F1 H1 en1, Stp K io σ F H en F1 H1 en1 → P a F1 H1 en1 → P' a F1 H1 en1) : Wpx K io W σ F H en r P' := by
  unfold Wpx at h ⊢
  exact Res.wp_mono h (fun q h F' H' s => f _ _ _ _ s (h F' H' s)) fun x e h => h
theorem Wpx.get {o : Option α} {k : α → R (β × En)} {P : β → Hp → Hp → En → Prop} (h : Wpx K io W σ F H en ((Res.get o).bind k) P) : ∃ a, o = some a ∧ Wpx K io W σ F H en (k a) P := by
  cases o with
  | none => exact h.elim
  | some a => exact ⟨a, rfl, h⟩
theorem Wpx.getN {γ : Type} {o : Option γ} {k : γ → R (α × En)} {k2 : α × En → R (β × En)} {P : β → Hp → Hp → En → Prop} (h : Wpx K io W σ F H en (((Res.get o).bind k).bind k2) P) : ∃ a, o = some a ∧ Wpx K io W σ F H en ((k a).bind k2) P := by
  cases o with
  | none => exact h.elim
  | some a => exact ⟨a, rfl, h⟩
theorem Wpx.need {b : Bool} {r : R (β × En)} {P : β → Hp → Hp → En → Prop} (h : Wpx K io W σ F H en (.need b r) P) : b = true ∧ Wpx K io W σ F H en r P := by
  cases b with
  | true => exact ⟨rfl, h⟩
  | false => exact h.elim
theorem Wpx.done {a : α} {P : α → Hp → Hp → En → Prop} (h : Wpx K io W σ F H en (.ok (a, en1)) P) : ∀ F' H', Stp K io σ F H en F' H' en1 → P a F' H' en1 := h

def tV (K : PySem.W.Frag) (io : Option Nat) (W : WX) (g : En → R (Rv × En)) : TE := fun σ H Q => ∃ F en, Sl K F H en σ ∧ Wpx K io W σ F H en (g en) fun r F' H' en' => ∀ v, RvOk K σ H en F' H' en' v r → Q v H'
def tA (K : PySem.W.Frag) (io : Option Nat) (W : WX) (g : En → R (Av × En)) : TE := fun σ H Q => ∃ F en, Sl K F H en σ ∧ Wpx K io W σ F H en (g en) fun r F' H' en' => ∀ v, AvOk K σ H en F' H' en' v r → Q v H'
def tD (K : PySem.W.Frag) (io : Option Nat) (W : WX) (g : En → R (D × En)) : TE := fun σ H Q => ∃ F en, Sl K F H en σ ∧ Wpx K io W σ F H en (g en) fun r F' H' en' => ∀ v, Rp K F' v r → Q v H'
def tT (K : PySem.W.Frag) (io : Option Nat) (W : WX) (g : En → R (Bool × En)) : TT := fun σ H Q => ∃ F en, Sl K F H en σ ∧ Wpx K io W σ F H en (g en) fun r F' H' en' => Q r H'
def tO (K : PySem.W.Frag) (io : Option Nat) (W : WX) (g : En → R (Option Int × En)) : TO := fun σ H Q => ∃ F en, Sl K F H en σ ∧ Wpx K io W σ F H en (g en) fun r F' H' en' => Q r H'
/-- argument lists, by their kinds -/
def AvsOk (K : PySem.W.Frag) (σ : L2.St) (H : Hp) (en : En) (F' H' : Hp) (en' : En) : List V → List Av → Prop
  | [], [] => True
  | v :: vs, a :: as => AvOk K σ H en F' H' en' v a ∧ AvsOk K σ H en F' H' en' vs as
  | _, _ => False
theorem AvsOk.later (t : Stp K io σ F1 H1 en1 F2 H2 en2) : ∀ {vs : List V} {as : List Av}, AvsOk K σ H en F1 H1 en1 vs as → AvsOk K σ H en F2 H2 en2 vs as
  | [], [], h => h
  | _ :: _, _ :: _, h => ⟨h.1.later t, AvsOk.later t h.2⟩
  | [], _ :: _, h => h
  | _ :: _, [], h => h
theorem AvsOk.from (t : Stp K io σ F H en F1 H1 en1) : ∀ {vs : List V} {as : List Av}, AvsOk K σ H1 en1 F2 H2 en2 vs as → AvsOk K σ H en F2 H2 en2 vs as
  | [], [], h => h
  | _ :: _, _ :: _, h => ⟨.from t h.1, AvsOk.from t h.2⟩
  | [], _ :: _, h => h
  | _ :: _, [], h => h
theorem AvsOk.length : ∀ {vs : List V} {as : List Av}, AvsOk K σ H en F1 H1 en1 vs as → vs.length = as.length
  | [], [], _ => rfl
  | _ :: _, _ :: _, h => congrArg Nat.succ (AvsOk.length h.2)
  | [], _ :: _, h => h.elim
  | _ :: _, [], h => h.elim
theorem AvsOk.append : ∀ {vs ws : List V} {as bs : List Av}, AvsOk K σ H en F1 H1 en1 vs as → AvsOk K σ H en F1 H1 en1 ws bs → AvsOk K σ H en F1 H1 en1 (vs ++ ws) (as ++ bs)
  | [], _, [], _, _, h => h
  | _ :: _, _, _ :: _, _, h, g => ⟨h.1, AvsOk.append h.2 g⟩
  | [], _, _ :: _, _, h, _ => h.elim
  | _ :: _, _, [], _, h, _ => h.elim
theorem AvsOk.get : ∀ {vs : List V} {as : List Av} {i : Nat} {a : Av}, AvsOk K σ H en F1 H1 en1 vs as → as[i]? = some a → ∃ v, vs[i]? = some v ∧ AvOk K σ H en F1 H1 en1 v a
  | _ :: _, _ :: _, 0, _, h, e => by
    simp at e
    subst e
    exact ⟨_, rfl, h.1⟩
  | _ :: vs, _ :: as, i + 1, a, h, e => by
    obtain ⟨v, h1, h2⟩ := AvsOk.get (i := i) h.2 (by simpa using e)
    exact ⟨v, by simpa using h1, h2⟩
  | [], [], _, _, _, e => by simp at e
  | [], _ :: _, _, _, h, _ => h.elim
  | _ :: _, [], _, _, h, _ => h.elim
theorem AvsOk.take : ∀ {vs : List V} {as : List Av} (n : Nat), AvsOk K σ H en F1 H1 en1 vs as → AvsOk K σ H en F1 H1 en1 (vs.take n) (as.take n)
  | _, _, 0, _ => trivial
  | [], [], _ + 1, h => h
  | _ :: _, _ :: _, n + 1, h => ⟨h.1, AvsOk.take n h.2⟩
  | [], _ :: _, _ + 1, h => h.elim
  | _ :: _, [], _ + 1, h => h.elim
theorem AvsOk.drop : ∀ {vs : List V} {as : List Av} (n : Nat), AvsOk K σ H en F1 H1 en1 vs as → AvsOk K σ H en F1 H1 en1 (vs.drop n) (as.drop n)
  | _, _, 0, h => h
  | [], [], _ + 1, h => h
  | _ :: _, _ :: _, n + 1, h => AvsOk.drop n h.2
  | [], _ :: _, _ + 1, h => h.elim
  | _ :: _, [], _ + 1, h => h.elim
theorem AvsOk.perm {vs : List V} {as : List Av} (h : AvsOk K σ H en F1 H1 en1 vs as) : ∀ {pm : List Nat} {l : List Av}, permD as pm = some l → ∃ ws, permD vs pm = some ws ∧ AvsOk K σ H en F1 H1 en1 ws l
  | [], l, e => by
    cases e
    exact ⟨[], rfl, trivial⟩
  | k :: pm, l, e => by
    unfold permD at e
    cases q : as[k]? with
    | none => rw [q] at e; cases e
    | some a =>
      rw [q] at e
      have e : (permD as pm).map (a :: ·) = some l := e
      cases q2 : permD as pm with
      | none => rw [q2] at e; cases e
      | some l' =>
        rw [q2] at e
        cases e
        obtain ⟨v, h1, h2⟩ := h.get q
        obtain ⟨ws, h3, h4⟩ := AvsOk.perm h q2
        refine ⟨v :: ws, ?_, h2, h4⟩
        unfold permD
        rw [h1, h3]
        rfl
def tAs (K : PySem.W.Frag) (io : Option Nat) (W : WX) (g : En → R (List Av × En)) : TA := fun σ H Q => ∃ F en, Sl K F H en σ ∧ Wpx K io W σ F H en (g en) fun r F' H' en' => ∀ vs, AvsOk K σ H en F' H' en' vs r → Q vs H'
def tDs (K : PySem.W.Frag) (io : Option Nat) (W : WX) (g : En → R (List D × En)) : TA := fun σ H Q => ∃ F en, Sl K F H en σ ∧ Wpx K io W σ F H en (g en) fun r F' H' en' => ∀ vs, RpAll K F' vs r → Q vs H'
theorem seeAll_of (s : Sl K F1 H1 en1 σ) : ∀ {vs : List V} {as : List Av} {ds : List D}, AvsOk K σ H en F1 H1 en1 vs as → seeAll en1 as = some ds → SeeAll K F1 H1 vs ds
  | [], [], ds, _, e => by cases e; trivial
  | v :: vs, a :: as, ds, h, e => by
    unfold seeAll at e
    cases q : a.see en1 with
    | none => rw [q] at e; cases e
    | some d =>
      rw [q] at e
      have e : (seeAll en1 as).map (d :: ·) = some ds := e
      cases q2 : seeAll en1 as with
      | none => rw [q2] at e; cases e
      | some l' =>
        rw [q2] at e
        cases e
        exact ⟨h.1.see s q, seeAll_of s h.2 q2⟩
  | [], _ :: _, _, h, _ => h.elim
  | _ :: _, [], _, h, _ => h.elim
theorem plainAll_of : ∀ {vs : List V} {as : List Av} {ds : List D}, AvsOk K σ H en F1 H1 en1 vs as → plainAll as = some ds → RpAll K F1 vs ds
  | [], [], ds, _, e => by cases e; exact .nil
  | v :: vs, a :: as, ds, h, e => by
    cases a with
    | dat d =>
      have e : (plainAll as).map (d :: ·) = some ds := e
      cases q2 : plainAll as with
      | none => rw [q2] at e; cases e
      | some l' =>
        rw [q2] at e
        cases e
        exact .cons h.1 (plainAll_of h.2 q2)
    | pk i => cases e
    | own es => cases e
  | [], _ :: _, _, h, _ => h.elim
  | _ :: _, [], _, h, _ => h.elim
end

/-! ### weaker readings -/
section
variable {X : Cx} {e : Expr} {es : List Expr}
theorem PEimp {t t' : TE} (h : PE X e t) (f : ∀ σ H Q, t' σ H Q → t σ H Q) : PE X e t' := ⟨fun pins s σ H Q I q => h.run pins s σ H Q I (f σ H Q q)⟩
theorem PTimp {t t' : TT} (h : PT X e t) (f : ∀ σ H Q, t' σ H Q → t σ H Q) : PT X e t' := ⟨fun pins s σ H Q I q => h.run pins s σ H Q I (f σ H Q q)⟩
theorem PWimp {t t' : TT} (h : PW X e t) (f : ∀ σ H Q, t' σ H Q → t σ H Q) : PW X e t' := ⟨fun wh pins s σ H Q I q => h.run wh pins s σ H Q I (f σ H Q q)⟩
theorem PAimp {t t' : TA} (h : PA X es t) (f : ∀ σ H Q, t' σ H Q → t σ H Q) : PA X es t' := ⟨fun pos pins s σ H Q I q => h.run pos pins s σ H Q I (f σ H Q q)⟩
theorem POimp {e : Option Expr} {t t' : TO} (h : PO X e t) (f : ∀ σ H Q, t' σ H Q → t σ H Q) : PO X e t' := ⟨fun pins s σ H Q I q => h.run pins s σ H Q I (f σ H Q q)⟩
end
end Mp

end

section
namespace Mp
open PySem PySem.Spec PyProof.Rows L2

/-- a running frame or block over the text; W: what is wanted of an error -/
structure Cz (X : Cx) (n : Nat) (W : WX) (wh : Wh) (nm : Nm) (S : Sc) : Prop where
  gd : Gd X n
  tx : Tx X.prog X.w X.K X.mg X.base n wh nm.fn nm.cst S
  N : X.N = nm.N
  nd : X.N.Nodup
  tk : Takes X W
/-- a term keeps what its worth says, in all its roles -/
structure Snd (X : Cx) (W : WX) (nm : Nm) (S : Sc) (e : E) : Prop where
  v : PE X (astE nm e) (tV X.K S.io W (evE S e).v)
  t : PT X (astE nm e) (tT X.K S.io W (evE S e).t)
  a : PE X (astE nm e) (tA X.K S.io W (evE S e).a)
  o : PO X (optX e (astE nm e)) (tO X.K S.io W (evE S e).o)
  c : PTs X (cndX e (astE nm e)) (tT X.K S.io W (evE S e).c)
structure SndAll (X : Cx) (W : WX) (nm : Nm) (S : Sc) (es : Es) : Prop where
  ds : PA X (astEs nm es) (tDs X.K S.io W (dsOf (evEs S es)))
  as : PA X (astEs nm es) (tAs X.K S.io W (avsOf (evEs S es)))
section
variable {X : Cx} {n : Nat} {W : WX} {wh : Wh} {nm : Nm} {S : Sc}

theorem vis_of {sc : Scope} {x : Str} (h : visB sc x = true) : Vis sc x := by
  unfold visB at h
  rw [Bool.and_eq_true] at h
  have h2 := h.2
  split at h2
  · rename_i q; exact .inl q
  · rename_i q; exact .inr (.inl q)
  · rename_i q; exact .inr (.inr q)
  · cases h2
theorem dbg_of {x : Str} (h : notDbg x = true) : (x == ("__debug__" : Str)) = false ∧ (x == ("__classdict__" : Str)) = false := by
  unfold notDbg at h
  rw [Bool.and_eq_true, Bool.not_eq_true', Bool.not_eq_true'] at h
  exact h
theorem visDbg {sc : Scope} {x : Str} (h : visB sc x = true) : notDbg x = true := by
  unfold visB at h
  rw [Bool.and_eq_true] at h
  exact h.1
theorem gl_of {x : Str} (h : glB X.env.scope x = true) : Gl X x ∧ (x == ("__debug__" : Str)) = false := by
  unfold glB at h
  rw [Bool.and_eq_true] at h
  refine ⟨?_, (dbg_of h.1).1⟩
  have h2 := h.2
  split at h2
  · rename_i q; exact q
  · cases h2
theorem slot_of (C : Cz X n W wh nm S) {sc : Scope} {i : Nat} (h : slotB nm sc i = true) : X.N[i]? = some (nm.slot i) ∧ visB sc (nm.slot i) = true := by
  unfold slotB at h
  rw [Bool.and_eq_true] at h
  refine ⟨?_, h.2⟩
  rw [C.N]
  have hl : i < nm.N.length := of_decide_eq_true h.1
  unfold Nm.slot
  rw [List.getElem?_eq_getElem hl, List.getD_eq_getElem?_getD, List.getElem?_eq_getElem hl]
  rfl
theorem pe_slot (C : Cz X n W wh nm S) {i : Nat} {p : Pos} (h : slotB nm X.env.scope i = true) : PE X (.Name (nm.slot i) p) (tVar i) :=
  let ⟨h1, h2⟩ := slot_of C h
  pe_var h1 (vis_of h2) (dbg_of (visDbg h2)).1 (dbg_of (visDbg h2)).2

/-! ### from a value to the other roles -/
theorem pe_dat {e : Expr} {ev : Ev} (h : PE X e (tV X.K S.io W ev.v)) : PE X e (tD X.K S.io W ev.d) :=
  PEimp h fun σ H Q ⟨F, en, sl, h⟩ => ⟨F, en, sl, h.seq (Stp.refl sl) fun r F1 H1 en1 st h1 v hv =>
    ContV.of (K := X.K) (io := S.io) (fun F' H' v s hv => h1.done F' H' s v hv) F1 H1 v st hv⟩
theorem pt_tru {e : Expr} {g : En → R (D × En)} (h : PE X e (tD X.K S.io W g)) (he : ∀ whole, isTrue e X.env whole = (do let v ← whole; standAt e.pos; holding [v] (truthy v))) : PT X e (tT X.K S.io W fun σ => (g σ).bind truR) :=
  PTimp (pt_truth h he) fun σ H Q ⟨F, en, sl, h⟩ => ⟨F, en, sl, h.seq (Stp.refl sl) fun r F1 H1 en1 st h1 v hv => by
    obtain ⟨b, e, h2⟩ := h1.get
    exact ⟨b, tru_see st.sl.sub (.inl hv) e, h2.done F1 H1 st⟩⟩
theorem tru_flip {v : En → R (Rv × En)} : (fun σ => (v σ).bind fun q => truR (q.1.d, q.2)) = fun σ => (Ev.d (.of v) σ).bind truR := by
  funext σ
  show (v σ).bind _ = ((v σ).bind _).bind _
  cases v σ <;> rfl
theorem snd_ofT {e : E} {v : En → R (Rv × En)} {t : En → R (Bool × En)} (he : evE S e = .ofT v t) (hx : optX e (astE nm e) = some (astE nm e)) (hc : cndX e (astE nm e) = [astE nm e]) (h : PE X (astE nm e) (tV X.K S.io W v)) (ht : PT X (astE nm e) (tT X.K S.io W t)) : Snd X W nm S e := by
  refine ⟨by rw [he]; exact h, by rw [he]; exact ht, ?_, ?_, ?_⟩
  · rw [he]
    refine PEimp h fun σ H Q ⟨F, en, sl, h⟩ => ⟨F, en, sl, h.seq (Stp.refl sl) fun r F1 H1 en1 st h1 v hv => ?_⟩
    exact ContV.of (K := X.K) (io := S.io) (fun F' H' v s hv => h1.done F' H' s v hv) F1 H1 v st hv
  · rw [he, hx]
    refine POimp (po_some h) fun σ H Q ⟨F, en, sl, h⟩ => ⟨F, en, sl, h.seq (Stp.refl sl) fun r F1 H1 en1 st h1 v hv => ?_⟩
    cases r with
    | own ds => exact h1.elim
    | val d =>
      cases d with
      | int i =>
        cases hv
        exact ⟨i, rfl, h1.done F1 H1 st⟩
      | _ => exact h1.elim
  · rw [he, hc]
    exact pts_one ht
theorem snd_of {e : E} {v : En → R (Rv × En)} (he : evE S e = .of v) (hx : optX e (astE nm e) = some (astE nm e)) (hc : cndX e (astE nm e) = [astE nm e]) (hp : plainT e = true) (h : PE X (astE nm e) (tV X.K S.io W v)) : Snd X W nm S e := by
  refine snd_ofT he hx hc h ?_
  rw [tru_flip]
  exact pt_tru (pe_dat (ev := .of v) h) (plainT_ok e hp)
/-- a value that is told at once -/
theorem pe_lit {e : Expr} {v : V} {d : D} (h : PE X e (tC v)) (r : ∀ F, Rp X.K F v d) : PE X e (tV X.K S.io W fun σ => .ok (.val d, σ)) :=
  PEimp h fun σ H Q ⟨F, en, sl, h⟩ => h.done F H (Stp.refl sl) v (r F)

/-! ### argument lists -/
theorem sndAll_nil : SndAll X W nm S .nil :=
  ⟨PAimp pa_nil fun σ H Q ⟨F, en, sl, h⟩ => h.done F H (Stp.refl sl) [] .nil, PAimp pa_nil fun σ H Q ⟨F, en, sl, h⟩ => h.done F H (Stp.refl sl) [] trivial⟩
theorem sndAll_cons {e : E} {es : Es} (h1 : Snd X W nm S e) (h2 : SndAll X W nm S es) : SndAll X W nm S (.cons e es) := by
  refine ⟨?_, ?_⟩
  · refine PAimp (pa_cons (pe_dat h1.v) h2.ds (star_ok e)) fun σ H Q ⟨F, en, sl, h⟩ => ⟨F, en, sl, h.seq (Stp.refl sl) fun d F1 H1 en1 st1 h v hv => ⟨F1, en1, st1.sl, h.seq st1 fun ds F2 H2 en2 st2 h vs hvs => ?_⟩⟩
    exact h.done F2 H2 (st1.trans st2) (v :: vs) (.cons (hv.mono st2.mono) hvs)
  · refine PAimp (pa_cons h1.a h2.as (star_ok e)) fun σ H Q ⟨F, en, sl, h⟩ => ⟨F, en, sl, h.seq (Stp.refl sl) fun d F1 H1 en1 st1 h v hv => ⟨F1, en1, st1.sl, h.seq st1 fun ds F2 H2 en2 st2 h vs hvs => ?_⟩⟩
    exact h.done F2 H2 (st1.trans st2) (v :: vs) ⟨hv.later st2, hvs.from st1⟩

/-! ### slots -/
theorem set_get {l : En} {i : Nat} {x y : Sv} (h : l[i]? = some y) : (l.set i x)[i]? = some x := by
  obtain ⟨hl, _⟩ := List.getElem?_eq_some_iff.mp h
  exact List.getElem?_set_self hl
theorem set_ne {l : En} {i j : Nat} {x : Sv} (h : i ≠ j) : (l.set i x)[j]? = l[j]? := List.getElem?_set_ne h
theorem pe_vars (C : Cz X n W wh nm S) {i : Nat} {p : Pos} (h : slotB nm X.env.scope i = true) : PE X (.Name (nm.slot i) p) (tV X.K S.io W (varAt i)) :=
  PEimp (pe_slot C h) fun σ H Q ⟨F, en, sl, h⟩ => by
    unfold varAt at h
    split at h
    · rename_i d q
      obtain ⟨v, h1, h2⟩ := sl.val i d q
      exact ⟨v, h1, h.done F H (Stp.refl sl) v h2⟩
    · exact h.elim
theorem pe_pk (C : Cz X n W wh nm S) {i : Nat} {p : Pos} (h : slotB nm X.env.scope i = true) : PE X (.Name (nm.slot i) p) (tA X.K S.io W (pkAt i)) :=
  PEimp (pe_slot C h) fun σ H Q ⟨F, en, sl, h⟩ => by
    unfold pkAt at h
    split at h
    · rename_i ds q
      obtain ⟨a, xs, h1, _⟩ := sl.own i ds q
      exact ⟨.ref a, h1, h.done F H (Stp.refl sl) (.ref a) h1⟩
    · exact h.elim
/-- an own slot let go: it holds nothing (then its list is a new list of ours), or a value -/
theorem Sl.letGo {K : PySem.W.Frag} {F H : Hp} {en : En} {σ : L2.St} (sl : Sl K F H en σ) {i : Nat} {ds : List D} (q : en[i]? = some (.own ds)) : Sl K F H (en.set i .un) σ where
  len := by rw [List.length_set]; exact sl.len
  sub := sl.sub
  val := fun j d h => by
    by_cases e : i = j
    · subst e
      rw [set_get q] at h
      cases h
    · rw [set_ne e] at h
      exact sl.val j d h
  own := fun j d h => by
    by_cases e : i = j
    · subst e
      rw [set_get q] at h
      cases h
    · rw [set_ne e] at h
      exact sl.own j d h
  ap := fun j k ds es a h1 h2 => by
    by_cases e : i = j
    · subst e
      rw [set_get q] at h1
      cases h1
    · by_cases e' : i = k
      · subst e'
        rw [set_get q] at h2
        cases h2
      · rw [set_ne e] at h1
        rw [set_ne e'] at h2
        exact sl.ap j k ds es a h1 h2
theorem Stp.letGo {K : PySem.W.Frag} {F H : Hp} {en : En} {σ : L2.St} {io : Option Nat} (sl : Sl K F H en σ) {i : Nat} {ds : List D} (q : en[i]? = some (.own ds)) (hio : (io == some i) = false) : Stp K io σ F H en F H (en.set i .un) where
  sl := sl.letGo q
  mono := fun _ _ h => h
  new := fun a h => .inl h
  keep := fun a o h _ => h
  own' := fun j es h => by
    by_cases e : i = j
    · subst e
      exact ⟨ds, q⟩
    · rw [set_ne e] at h
      exact ⟨es, h⟩
  io' := fun p hp ⟨es, h⟩ => by
    by_cases e : i = p
    · subst e
      rw [hp] at hio
      simp at hio
    · rw [set_ne e]
      exact ⟨es, h⟩
theorem notOwn {K : PySem.W.Frag} {F H : Hp} {en : En} {σ : L2.St} (sl : Sl K F H en σ) {i : Nat} {ds : List D} (q : en[i]? = some (.own ds)) {a : Addr} (ha : σ[i]? = some (some (.ref a))) : ¬ OwnAt σ (en.set i .un) a := fun ⟨j, es, h1, h2⟩ => by
  by_cases e : i = j
  · subst e
    rw [set_get q] at h1
    cases h1
  · rw [set_ne e] at h1
    exact e (sl.ap i j ds es a q h1 ha h2)
theorem pe_mv (C : Cz X n W wh nm S) {i : Nat} {p : Pos} (h : slotB nm X.env.scope i = true) : PE X (.Name (nm.slot i) p) (tV X.K S.io W (mvAt S.io i)) :=
  PEimp (pe_slot C h) fun σ H Q ⟨F, en, sl, h⟩ => by
    unfold mvAt at h
    split at h
    · rename_i ds q
      obtain ⟨hio, h⟩ := h.need
      rw [Bool.not_eq_true'] at hio
      obtain ⟨a, xs, h1, h2, h3, h4⟩ := sl.own i ds q
      exact ⟨.ref a, h1, h.done F H (Stp.letGo sl q hio) (.ref a) ⟨a, xs, rfl, h2, h3, h4, notOwn sl q h1, .inr ⟨i, ds, q, h1⟩⟩⟩
    · exact h.elim
theorem Sl.toVal {K : PySem.W.Frag} {F H : Hp} {en : En} {σ : L2.St} {i : Nat} (sl : Sl K F H (en.set i .un) σ) {v : V} {d : D} (hv : σ[i]? = some (some v)) (hr : Rp K F v d) : Sl K F H (en.set i (.val d)) σ where
  len := by have := sl.len; rw [List.length_set] at this ⊢; exact this
  sub := sl.sub
  val := fun j e h => by
    by_cases ei : i = j
    · subst ei
      have hl : i < (en.set i (.val d)).length := (List.getElem?_eq_some_iff.mp h).1
      rw [List.length_set] at hl
      rw [List.getElem?_set_self hl] at h
      cases h
      exact ⟨v, hv, hr⟩
    · rw [set_ne ei] at h
      exact sl.val j e (by rw [set_ne ei]; exact h)
  own := fun j e h => by
    by_cases ei : i = j
    · subst ei
      have hl : i < (en.set i (.val d)).length := (List.getElem?_eq_some_iff.mp h).1
      rw [List.length_set] at hl
      rw [List.getElem?_set_self hl] at h
      cases h
    · rw [set_ne ei] at h
      exact sl.own j e (by rw [set_ne ei]; exact h)
  ap := fun j k ds es a h1 h2 => by
    by_cases ei : i = j
    · subst ei
      have hl : i < (en.set i (.val d)).length := (List.getElem?_eq_some_iff.mp h1).1
      rw [List.length_set] at hl
      rw [List.getElem?_set_self hl] at h1
      cases h1
    · by_cases ej : i = k
      · subst ej
        have hl : i < (en.set i (.val d)).length := (List.getElem?_eq_some_iff.mp h2).1
        rw [List.length_set] at hl
        rw [List.getElem?_set_self hl] at h2
        cases h2
      · rw [set_ne ei] at h1
        rw [set_ne ej] at h2
        exact sl.ap j k ds es a (by rw [set_ne ei]; exact h1) (by rw [set_ne ej]; exact h2)
theorem pe_frz (C : Cz X n W wh nm S) {i : Nat} {p : Pos} (h : slotB nm X.env.scope i = true) : PE X (.Name (nm.slot i) p) (tV X.K S.io W (frzAt S.io i)) :=
  PEimp (pe_slot C h) fun σ H Q ⟨F, en, sl, h⟩ => by
    unfold frzAt at h
    split at h
    · rename_i ds q
      obtain ⟨hio, h⟩ := h.need
      rw [Bool.not_eq_true'] at hio
      obtain ⟨a, xs, h1, h2, h3, h4⟩ := sl.own i ds q
      have s1 := Stp.letGo sl q hio
      have s2 := Stp.frozen s1.sl h2 h3 (notOwn sl q h1) (.inr ⟨i, ds, q, h1⟩) s1
      have rp : Rp X.K (upd F a (.lst xs)) (.ref a) (.list ds) := .lst (.inl (.inl upd_same)) (h4.mono fun b u q => by
        rw [upd_ne (fun e => by subst e; rw [h3] at q; cases q)]
        exact q)
      refine ⟨.ref a, h1, h.done _ H ⟨Sl.toVal s2.sl h1 rp, s2.mono, s2.new, s2.keep, fun j es hj => ?_, fun k hk hh => ?_⟩ (.ref a) rp⟩
      · by_cases e : i = j
        · subst e
          exact ⟨ds, q⟩
        · rw [set_ne e] at hj
          exact ⟨es, hj⟩
      · by_cases e : i = k
        · subst e
          rw [hk] at hio
          simp at hio
        · rw [set_ne e]
          exact hh
    · rename_i d q
      obtain ⟨v, h1, h2⟩ := sl.val i d q
      exact ⟨v, h1, h.done F H (Stp.refl sl) v h2⟩
    · exact h.elim
end
end Mp

end

section
namespace Mp
open PySem PySem.Spec PyProof.Rows L2

section
variable {X : Cx} {n : Nat} {W : WX} {wh : Wh} {nm : Nm} {S : Sc}
def SndEach (X : Cx) (W : WX) (nm : Nm) (S : Sc) : Es → Prop
  | .nil => True
  | .cons e es => Snd X W nm S e ∧ SndEach X W nm S es
theorem SndEach.all : ∀ {es : Es}, SndEach X W nm S es → SndAll X W nm S es
  | .nil, _ => sndAll_nil
  | .cons _ _, h => sndAll_cons h.1 (SndEach.all h.2)

/-! ### one lemma a node -/
theorem pe_tupD {p : Pos} {k : Nat} {es : Es} (h : SndAll X W nm S es) : PE X (.Tuple (astEs nm es) k p) (tV X.K S.io W fun σ => (dsOf (evEs S es) σ).bind fun q => .need (okLen q.1.length) (.ok (.val (.tuple q.1), q.2))) :=
  PEimp (pe_tup h.ds) fun σ H Q ⟨F, en, sl, h⟩ => ⟨F, en, sl, h.seq (Stp.refl sl) fun ds F1 H1 en1 st h vs hv => by
    obtain ⟨hz, h⟩ := h.need
    exact ⟨by rw [hv.length]; exact okLen_le hz, fun p hp => Cont.tup (K := X.K) (io := S.io) (fun F' H' v s r => h.done F' H' s v r) st hv hp⟩⟩
theorem pe_lstD {p : Pos} {es : Es} (h : SndAll X W nm S es) : PE X (.List (astEs nm es) p) (tV X.K S.io W fun σ => (dsOf (evEs S es) σ).bind fun q => .need (okLen q.1.length) (.ok (.own q.1, q.2))) :=
  PEimp (pe_lst h.ds) fun σ H Q ⟨F, en, sl, h⟩ => ⟨F, en, sl, h.seq (Stp.refl sl) fun ds F1 H1 en1 st h vs hv => by
    obtain ⟨hz, h⟩ := h.need
    exact ⟨by rw [hv.length]; exact okLen_le hz, fun p hp => Cont.own (K := X.K) (io := S.io) (fun F' H' v s r => h.done F' H' s v r) st hv hp⟩⟩
theorem pe_binD {p : Pos} {o : Bop} {a b : E} (ha : Snd X W nm S a) (hb : Snd X W nm S b) : PE X (.BinOp (astE nm a) o.ast (astE nm b) p) (tV X.K S.io W (opD (binD o) (evE S a) (evE S b))) :=
  PEimp (pe_op (op_bin (io := S.io) o) ha.a hb.a) fun σ H Q ⟨F, en, sl, h⟩ => ⟨F, en, sl, h.seq (Stp.refl sl) fun av F1 H1 en1 st1 h v hv => ⟨F1, en1, st1.sl, h.seq st1 fun bv F2 H2 en2 st2 h w hw => by
    obtain ⟨x, ex, h⟩ := h.get
    obtain ⟨y, ey, h⟩ := h.get
    obtain ⟨r, er, h⟩ := h.get
    exact ⟨F2, x, y, r, ⟨σ, F, H, en, en2, st1.trans st2, fun F' H' v s q => h.done F' H' s v q⟩, (hv.later st2).see st2.sl ex, hw.see st2.sl ey, er⟩⟩⟩
theorem units_ok (C : Cz X n W wh nm S) : X.A.units + 65 < cLine := by
  have := C.gd.room.un
  omega
theorem cmp_seq {a b : E} {o : Cop} {α : Type} {F H : Hp} {en : En} {σ : L2.St} {k : Bool × En → R (α × En)} {P : α → Hp → Hp → En → Prop} {Q : VK} (sl : Sl X.K F H en σ) (h : Wpx X.K S.io W σ F H en ((opD (cmpD o) (evE S a) (evE S b) en).bind k) P)
    (f : ∀ c F2 H2 en2, Stp X.K S.io σ F H en F2 H2 en2 → Wpx X.K S.io W σ F H en (k (c, en2)) P → Q (.bl c) H2) : tOp (rCmp X.K o) (tA X.K S.io W (evE S a).a) (tA X.K S.io W (evE S b).a) σ H Q :=
  ⟨F, en, sl, (Wpx.nest h).seq (Stp.refl sl) fun av F1 H1 en1 st1 h v hv => ⟨F1, en1, st1.sl, (Wpx.nest h).seq st1 fun bv F2 H2 en2 st2 h w hw => by
    obtain ⟨x, ex, h⟩ := h.getN
    obtain ⟨y, ey, h⟩ := h.getN
    obtain ⟨c, ec, h⟩ := h.getN
    exact ⟨F2, x, y, c, st2.sl.sub, (hv.later st2).see st2.sl ex, hw.see st2.sl ey, ec, f c F2 H2 en2 (st1.trans st2) h⟩⟩⟩
theorem pe_cmpD (C : Cz X n W wh nm S) {p : Pos} {o : Cop} {a b : E} (ha : Snd X W nm S a) (hb : Snd X W nm S b) : PE X (.Compare (astE nm a) [o.ast] [astE nm b] p) (tV X.K S.io W fun σ => (opD (cmpD o) (evE S a) (evE S b) σ).bind fun q => .ok (.val (.bool q.1), q.2)) :=
  PEimp (pe_cmpR (op_cmp (units_ok C) o) ha.a hb.a (noMark b)) fun σ H Q ⟨F, en, sl, h⟩ => cmp_seq sl h fun c F2 H2 en2 st h => h.done F2 H2 st (.bl c) (.bl c)
theorem pt_cmpD (C : Cz X n W wh nm S) {p : Pos} {o : Cop} {a b : E} (ha : Snd X W nm S a) (hb : Snd X W nm S b) : PT X (.Compare (astE nm a) [o.ast] [astE nm b] p) (tT X.K S.io W (opD (cmpD o) (evE S a) (evE S b))) :=
  PTimp (pt_cmpR (op_cmp (units_ok C) o) ha.a hb.a (noMark b)) fun σ H Q ⟨F, en, sl, h⟩ => cmp_seq (k := fun q => .ok q) sl (by
    cases q : opD (cmpD o) (evE S a) (evE S b) en <;> rw [q] at h <;> exact h) fun c F2 H2 en2 st h => ⟨c, rfl, h.done F2 H2 st⟩
theorem cmp2_seq {a b c : E} {o o' : Cop} {F H : Hp} {en : En} {σ : L2.St} {α : Type} {k : Bool × En → R (α × En)} {P : α → Hp → Hp → En → Prop} {Q : VK} (sl : Sl X.K F H en σ) (h : Wpx X.K S.io W σ F H en ((cmp2D o o' (evE S a) (evE S b) (evE S c) en).bind k) P)
    (f : ∀ c F2 H2 en2, Stp X.K S.io σ F H en F2 H2 en2 → Wpx X.K S.io W σ F H en (k (c, en2)) P → Q (.bl c) H2) : tChain (rCmp X.K o) (rCmp X.K o') (tD X.K S.io W (evE S a).d) (tD X.K S.io W (evE S b).d) (tD X.K S.io W (evE S c).d) σ H Q :=
  ⟨F, en, sl, (Wpx.nest h).seq (Stp.refl sl) fun d F1 H1 en1 st1 h v hv => ⟨F1, en1, st1.sl, (Wpx.nest h).seq st1 fun e F2 H2 en2 st2 h w hw => by
    obtain ⟨r, er, h⟩ := h.getN
    refine ⟨F2, d, e, r, st2.sl.sub, .inl (hv.mono st2.mono), .inl hw, er, r, rfl, ?_⟩
    cases r with
    | false =>
      refine iteF ?_
      exact f false F2 H2 en2 (st1.trans st2) h
    | true =>
      refine iteT ?_
      refine ⟨F2, en2, st2.sl, (Wpx.nest h).seq (st1.trans st2) fun g F3 H3 en3 st3 h z hz => ?_⟩
      obtain ⟨r', er', h⟩ := h.getN
      exact ⟨F3, e, g, r', st3.sl.sub, .inl (hw.mono st3.mono), .inl hz, er', f r' F3 H3 en3 ((st1.trans st2).trans st3) h⟩⟩⟩
theorem marks2 {o o' : Cop} {b c : E} : lastMarks [o.ast, o'.ast] [astE nm b, astE nm c] = false := noMark c
theorem pe_cmp2D (C : Cz X n W wh nm S) {p : Pos} {o o' : Cop} {a b c : E} (ha : Snd X W nm S a) (hb : Snd X W nm S b) (hc : Snd X W nm S c) : PE X (.Compare (astE nm a) [o.ast, o'.ast] [astE nm b, astE nm c] p) (tV X.K S.io W fun σ => (cmp2D o o' (evE S a) (evE S b) (evE S c) σ).bind fun q => .ok (.val (.bool q.1), q.2)) :=
  PEimp (pe_chain (op_cmp (units_ok C) o) (op_cmp (units_ok C) o') (pe_dat ha.v) (pe_dat hb.v) (pe_dat hc.v) marks2) fun σ H Q ⟨F, en, sl, h⟩ => cmp2_seq sl h fun c F2 H2 en2 st h => h.done F2 H2 st (.bl c) (.bl c)
theorem pt_cmp2D (C : Cz X n W wh nm S) {p : Pos} {o o' : Cop} {a b c : E} (ha : Snd X W nm S a) (hb : Snd X W nm S b) (hc : Snd X W nm S c) : PT X (.Compare (astE nm a) [o.ast, o'.ast] [astE nm b, astE nm c] p) (tT X.K S.io W (cmp2D o o' (evE S a) (evE S b) (evE S c))) :=
  PTimp (pt_chain (op_cmp (units_ok C) o) (op_cmp (units_ok C) o') (pe_dat ha.v) (pe_dat hb.v) (pe_dat hc.v) marks2) fun σ H Q ⟨F, en, sl, h⟩ => cmp2_seq (k := fun q => .ok q) sl (by
    cases q : cmp2D o o' (evE S a) (evE S b) (evE S c) en <;> rw [q] at h <;> exact h) fun c F2 H2 en2 st h => ⟨c, rfl, h.done F2 H2 st⟩
theorem pe_negD {p : Pos} {a : E} (ha : Snd X W nm S a) : PE X (.UnaryOp .USub (astE nm a) p) (tV X.K S.io W (negV (evE S a))) :=
  PEimp (pe_un un_neg ha.v) fun σ H Q ⟨F, en, sl, h⟩ => ⟨F, en, sl, h.seq (Stp.refl sl) fun r F1 H1 en1 st h v hv => by
    cases r with
    | own ds => exact h.elim
    | val d =>
      cases d with
      | int i =>
        cases hv
        exact ⟨i, rfl, h.done F1 H1 st _ (.int _)⟩
      | _ => exact h.elim⟩
theorem pe_notD {p : Pos} {a : E} (ha : Snd X W nm S a) : PE X (.UnaryOp .Not (astE nm a) p) (tV X.K S.io W fun σ => ((evE S a).d σ).bind fun q => (truR q).bind fun q => .ok (.val (.bool (!q.1)), q.2)) :=
  PEimp (pe_notT (pe_dat ha.v)) fun σ H Q ⟨F, en, sl, h⟩ => ⟨F, en, sl, h.seq (Stp.refl sl) fun d F1 H1 en1 st h v hv => by
    obtain ⟨b, e, h⟩ := h.getN
    exact ⟨b, tru_see st.sl.sub (.inl hv) e, h.done F1 H1 st _ (.bl _)⟩⟩
theorem pt_notD {p : Pos} {a : E} (ha : Snd X W nm S a) : PT X (.UnaryOp .Not (astE nm a) p) (tT X.K S.io W fun σ => ((evE S a).t σ).bind fun q => .ok (!q.1, q.2)) :=
  PTimp (pt_not ha.t) fun σ H Q ⟨F, en, sl, h⟩ => ⟨F, en, sl, h.seq (Stp.refl sl) fun c F1 H1 en1 st h => h.done F1 H1 st⟩
theorem pe_andD {p : Pos} : ∀ {es : Es}, SndEach X W nm S es → es.len ≠ 0 → PE X (.BoolOp .And (astEs nm es) p) (tV X.K S.io W (andV (evEs S es)))
  | .nil, _, h => absurd rfl h
  | .cons e .nil, h, _ => pe_one h.1.v
  | .cons e (.cons e' es), h, _ => PEimp (pe_andT (pe_dat h.1.v) (pe_andD (es := .cons e' es) h.2 (Nat.succ_ne_zero _))) fun σ H Q ⟨F, en, sl, h⟩ => ⟨F, en, sl, h.seq (Stp.refl sl) fun d F1 H1 en1 st h v hv => by
    obtain ⟨b, e, h⟩ := h.get
    refine ⟨b, tru_see st.sl.sub (.inl hv) e, ?_⟩
    cases b with
    | true => exact iteT ⟨F1, en1, st.sl, h.base st fun r F2 H2 en2 st2 h v hv => h v (hv.from st)⟩
    | false => exact iteF (h.done F1 H1 st v hv)⟩
theorem pe_orD {p : Pos} : ∀ {es : Es}, SndEach X W nm S es → es.len ≠ 0 → PE X (.BoolOp .Or (astEs nm es) p) (tV X.K S.io W (orV (evEs S es)))
  | .nil, _, h => absurd rfl h
  | .cons e .nil, h, _ => pe_one h.1.v
  | .cons e (.cons e' es), h, _ => PEimp (pe_orT (pe_dat h.1.v) (pe_orD (es := .cons e' es) h.2 (Nat.succ_ne_zero _))) fun σ H Q ⟨F, en, sl, h⟩ => ⟨F, en, sl, h.seq (Stp.refl sl) fun d F1 H1 en1 st h v hv => by
    obtain ⟨b, e, h⟩ := h.get
    refine ⟨b, tru_see st.sl.sub (.inl hv) e, ?_⟩
    cases b with
    | true => exact iteT (h.done F1 H1 st v hv)
    | false => exact iteF ⟨F1, en1, st.sl, h.base st fun r F2 H2 en2 st2 h v hv => h v (hv.from st)⟩⟩
theorem pw_andD {p : Pos} : ∀ {es : Es}, SndEach X W nm S es → es.len ≠ 0 → PW X (.BoolOp .And (astEs nm es) p) (tT X.K S.io W (andT (evEs S es)))
  | .nil, _, h => absurd rfl h
  | .cons e .nil, h, _ => PWimp (pw_and1 h.1.t) fun σ H Q ⟨F, en, sl, h⟩ => ⟨F, en, sl, h.seq (Stp.refl sl) fun c F1 H1 en1 st h => by
    cases c with
    | true => exact h.done F1 H1 st
    | false => exact h.done F1 H1 st⟩
  | .cons e (.cons e' es), h, _ => PWimp (pw_and h.1.t (pw_andD (es := .cons e' es) h.2 (Nat.succ_ne_zero _))) fun σ H Q ⟨F, en, sl, h⟩ => ⟨F, en, sl, h.seq (Stp.refl sl) fun c F1 H1 en1 st h => by
    cases c with
    | true => exact iteT ⟨F1, en1, st.sl, h.base st fun r F2 H2 en2 st2 h => h⟩
    | false => exact iteF (h.done F1 H1 st)⟩
theorem pw_orD {p : Pos} : ∀ {es : Es}, SndEach X W nm S es → es.len ≠ 0 → PW X (.BoolOp .Or (astEs nm es) p) (tT X.K S.io W (orT (evEs S es)))
  | .nil, _, h => absurd rfl h
  | .cons e .nil, h, _ => PWimp (pw_or1 h.1.t) fun σ H Q ⟨F, en, sl, h⟩ => ⟨F, en, sl, h.seq (Stp.refl sl) fun c F1 H1 en1 st h => by
    cases c with
    | true => exact h.done F1 H1 st
    | false => exact h.done F1 H1 st⟩
  | .cons e (.cons e' es), h, _ => PWimp (pw_or h.1.t (pw_orD (es := .cons e' es) h.2 (Nat.succ_ne_zero _))) fun σ H Q ⟨F, en, sl, h⟩ => ⟨F, en, sl, h.seq (Stp.refl sl) fun c F1 H1 en1 st h => by
    cases c with
    | true => exact iteT (h.done F1 H1 st)
    | false => exact iteF ⟨F1, en1, st.sl, h.base st fun r F2 H2 en2 st2 h => h⟩⟩
theorem pe_iteD {p : Pos} {c a b : E} (hc : Snd X W nm S c) (ha : Snd X W nm S a) (hb : Snd X W nm S b) : PE X (.IfExp (astE nm c) (astE nm a) (astE nm b) p) (tV X.K S.io W fun σ => ((evE S c).t σ).bind fun q => match q.1 with
      | true => (evE S a).v q.2
      | false => (evE S b).v q.2) :=
  PEimp (pe_ifExp hc.t ha.v hb.v) fun σ H Q ⟨F, en, sl, h⟩ => ⟨F, en, sl, h.seq (Stp.refl sl) fun c F1 H1 en1 st h => by
    cases c with
    | true => exact iteT ⟨F1, en1, st.sl, h.base st fun r F2 H2 en2 st2 h v hv => h v (hv.from st)⟩
    | false => exact iteF ⟨F1, en1, st.sl, h.base st fun r F2 H2 en2 st2 h v hv => h v (hv.from st)⟩⟩
theorem pt_ifExp {c a b : Expr} {pos : Pos} {tc ta tb : TT} (hc : PT X c tc) (ha : PT X a ta) (hb : PT X b tb) : PT X (.IfExp c a b pos) fun σ H Q => tc σ H fun k H1 => if k = true then ta σ H1 Q else tb σ H1 Q := by
  refine ⟨fun pins s σ H Q I h => ?_⟩
  refine isTrue_IfExp (thn (hc.run pins s σ H _ I h) fun d s1 ⟨H1, I1, q1⟩ => ?_)
  cases d with
  | true => exact ha.run pins s1 σ H1 Q I1 q1
  | false => exact hb.run pins s1 σ H1 Q I1 q1
theorem pt_iteD {p : Pos} {c a b : E} (hc : Snd X W nm S c) (ha : Snd X W nm S a) (hb : Snd X W nm S b) : PT X (.IfExp (astE nm c) (astE nm a) (astE nm b) p) (tT X.K S.io W fun σ => ((evE S c).t σ).bind fun q => match q.1 with
      | true => (evE S a).t q.2
      | false => (evE S b).t q.2) :=
  PTimp (pt_ifExp hc.t ha.t hb.t) fun σ H Q ⟨F, en, sl, h⟩ => ⟨F, en, sl, h.seq (Stp.refl sl) fun c F1 H1 en1 st h => by
    cases c with
    | true => exact iteT ⟨F1, en1, st.sl, h.base st fun r F2 H2 en2 st2 h => h⟩
    | false => exact iteF ⟨F1, en1, st.sl, h.base st fun r F2 H2 en2 st2 h => h⟩⟩
theorem pe_ixD {p : Pos} {a i : E} (ha : Snd X W nm S a) (hi : Snd X W nm S i) : PE X (.Subscript (astE nm a) (astE nm i) p) (tV X.K S.io W (ixV (evE S a) (evE S i))) :=
  PEimp (pe_ix ix_any ha.a hi.v (plainIx_ok i)) fun σ H Q ⟨F, en, sl, h⟩ => ⟨F, en, sl, h.seq (Stp.refl sl) fun av F1 H1 en1 st1 h v hv => ⟨F1, en1, st1.sl, h.seq st1 fun r F2 H2 en2 st2 h w hw => by
    obtain ⟨d, ed, h⟩ := h.get
    cases r with
    | own ds => exact h.elim
    | val k =>
      cases k with
      | int k =>
        cases hw
        cases d with
        | list ds =>
          have h : Wpx X.K S.io W σ F H en ((Res.get (ixD ds k)).bind fun x => .ok (Rv.val x, en2)) _ := h
          obtain ⟨x, ex, h⟩ := h.get
          exact ⟨F2, .list ds, k, x, st2.sl.sub, (hv.later st2).see st2.sl ed, rfl, .inl ⟨ds, rfl, ex⟩, fun z hz => h.done F2 H2 (st1.trans st2) z hz⟩
        | tuple ds =>
          have h : Wpx X.K S.io W σ F H en ((Res.get (ixD ds k)).bind fun x => .ok (Rv.val x, en2)) _ := h
          obtain ⟨x, ex, h⟩ := h.get
          exact ⟨F2, .tuple ds, k, x, st2.sl.sub, (hv.later st2).see st2.sl ed, rfl, .inr ⟨ds, rfl, ex⟩, fun z hz => h.done F2 H2 (st1.trans st2) z hz⟩
        | _ => exact h.elim
      | _ => exact h.elim⟩⟩
theorem pe_slD {p p2 : Pos} {a lo hi : E} (ha : Snd X W nm S a) (hl : Snd X W nm S lo) (hh : Snd X W nm S hi) : PE X (.Subscript (astE nm a) (.Slice (optX lo (astE nm lo)) (optX hi (astE nm hi)) none p2) p) (tV X.K S.io W (slV (evE S a) (evE S lo) (evE S hi))) :=
  PEimp (pe_slice (sl_any (io := S.io)) ha.a hl.o hh.o) fun σ H Q ⟨F, en, sl, h⟩ => ⟨F, en, sl, h.seq (Stp.refl sl) fun av F1 H1 en1 st1 h v hv => ⟨F1, en1, st1.sl, h.seq st1 fun l F2 H2 en2 st2 h => ⟨F2, en2, st2.sl, h.seq (st1.trans st2) fun u F3 H3 en3 st3 h => by
    obtain ⟨d, ed, h⟩ := h.get
    obtain ⟨r, er, h⟩ := h.get
    exact ⟨F3, d, r, ⟨σ, F, H, en, en3, (st1.trans st2).trans st3, fun F' H' v s q => h.done F' H' s v q⟩, ((hv.later st2).later st3).see st3.sl ed, er⟩⟩⟩⟩
end
end Mp

end

section
namespace Mp
open PySem PySem.Spec PyProof.Rows L2

section
variable {X : Cx} {n : Nat} {W : WX} {wh : Wh} {nm : Nm} {S : Sc}
theorem bi_read {f : Bi} {as : Es} (h : SndAll X W nm S as) : ∀ σ H Q, tV X.K S.io W (biV f (evEs S as)) σ H Q → tCB (rBi X.K S.io f) (tAs X.K S.io W (avsOf (evEs S as))) σ H Q := fun σ H Q ⟨F, en, sl, h⟩ => ⟨F, en, sl, h.seq (Stp.refl sl) fun avs F1 H1 en1 st h vs hvs => by
  obtain ⟨ds, ed, h⟩ := h.get
  obtain ⟨r, er, h⟩ := h.get
  exact ⟨F1, ds, r, ⟨σ, F, H, en, en1, st, fun F' H' v s q => h.done F' H' s v q⟩, seeAll_of st.sl hvs ed, er⟩⟩
theorem bn_len : bootBuiltins "len" = some (.builtin "len") := by decide +kernel
theorem bn_abs : bootBuiltins "abs" = some (.builtin "abs") := by decide +kernel
theorem bn_min : bootBuiltins "min" = some (.builtin "min") := by decide +kernel
theorem bn_max : bootBuiltins "max" = some (.builtin "max") := by decide +kernel
theorem bn_divmod : bootBuiltins "divmod" = some (.builtin "divmod") := by decide +kernel
theorem bn_repr : bootBuiltins "repr" = some (.builtin "repr") := by decide +kernel
theorem bn_all : bootBuiltins "all" = some (.builtin "all") := by decide +kernel
theorem bn_any : bootBuiltins "any" = some (.builtin "any") := by decide +kernel
theorem bn_sum : bootBuiltins "sum" = some (.builtin "sum") := by decide +kernel
theorem bn_isinstance : bootBuiltins "isinstance" = some (.builtin "isinstance") := by decide +kernel
theorem bn_int : bootBuiltins "int" = some (.type "int") := by decide +kernel
theorem bn_bool : bootBuiltins "bool" = some (.type "bool") := by decide +kernel
theorem bn_tuple : bootBuiltins "tuple" = some (.type "tuple") := by decide +kernel
theorem bn_list : bootBuiltins "list" = some (.type "list") := by decide +kernel
theorem bn_str : bootBuiltins "str" = some (.type "str") := by decide +kernel
theorem bn_dict : bootBuiltins "dict" = some (.type "dict") := by decide +kernel
theorem pe_biD (C : Cz X n W wh nm S) {p pn : Pos} {f : Bi} {as : Es} (hg : glB X.env.scope f.name = true) (hb : wh.okBi f = true) (hl : 1 ≤ as.len) (h : SndAll X W nm S as) : PE X (.Call (.Name f.name pn) (astEs nm as) [] p) (tV X.K S.io W (biV f (evEs S as))) := by
  cases as with
  | nil => exact absurd hl (by decide)
  | cons e es =>
    obtain ⟨g1, g2⟩ := gl_of hg
    refine PEimp ?_ (bi_read h)
    have hm : f ≠ .gcd → X.mg f.name = none := C.tx.bi f
    cases f with
    | len => exact pe_callB (call_bi C.gd C.tx.sm .len) g1 (hm (fun z => nomatch z)) bn_len h.as (by decide) g2 (star_ok e) (stars_ok es)
    | abs => exact pe_callB (call_bi C.gd C.tx.sm .abs) g1 (hm (fun z => nomatch z)) bn_abs h.as (by decide) g2 (star_ok e) (stars_ok es)
    | int => exact pe_callTy (call_bi C.gd C.tx.sm .int) g1 (hm (fun z => nomatch z)) bn_int h.as (by decide) g2 (star_ok e) (stars_ok es)
    | min2 => exact pe_callB (call_bi C.gd C.tx.sm .min2) g1 (hm (fun z => nomatch z)) bn_min h.as (by decide) g2 (star_ok e) (stars_ok es)
    | max2 => exact pe_callB (call_bi C.gd C.tx.sm .max2) g1 (hm (fun z => nomatch z)) bn_max h.as (by decide) g2 (star_ok e) (stars_ok es)
    | tuple => exact pe_callTy (call_bi C.gd C.tx.sm .tuple) g1 (hm (fun z => nomatch z)) bn_tuple h.as (by decide) g2 (star_ok e) (stars_ok es)
    | list => exact pe_callTy (call_bi C.gd C.tx.sm .list) g1 (hm (fun z => nomatch z)) bn_list h.as (by decide) g2 (star_ok e) (stars_ok es)
    | divmod => exact pe_callB (call_bi C.gd C.tx.sm .divmod) g1 (hm (fun z => nomatch z)) bn_divmod h.as (by decide) g2 (star_ok e) (stars_ok es)
    | repr => exact pe_callB (call_bi C.gd C.tx.sm .repr) g1 (hm (fun z => nomatch z)) bn_repr h.as (by decide) g2 (star_ok e) (stars_ok es)
    | all => exact pe_callB (call_bi C.gd C.tx.sm .all) g1 (hm (fun z => nomatch z)) bn_all h.as (by decide) g2 (star_ok e) (stars_ok es)
    | any => exact pe_callB (call_bi C.gd C.tx.sm .any) g1 (hm (fun z => nomatch z)) bn_any h.as (by decide) g2 (star_ok e) (stars_ok es)
    | sum => exact pe_callB (call_bi C.gd C.tx.sm .sum) g1 (hm (fun z => nomatch z)) bn_sum h.as (by decide) g2 (star_ok e) (stars_ok es)
    | bool => exact pe_callTy (call_bi C.gd C.tx.sm .bool) g1 (hm (fun z => nomatch z)) bn_bool h.as (by decide) g2 (star_ok e) (stars_ok es)
    | gcd => exact pe_callBfun (call_bi C.gd C.tx.sm .gcd) g1 (C.tx.gcd hb) h.as g2 (star_ok e) (stars_ok es)

/-! ### isinstance -/
theorem pe_ty (C : Cz X n W wh nm S) {p : Pos} {t : Tn} (h : glB X.env.scope (Str.ofString t.name) = true) : PE X (.Name (Str.ofString t.name) p) (tC (.ty t.name)) := by
  obtain ⟨g1, g2⟩ := gl_of h
  have hm := C.tx.ty t
  cases t with
  | int => exact pe_bltn g1 hm bn_int rfl (by decide) g2
  | bool => exact pe_bltn g1 hm bn_bool rfl (by decide) g2
  | tuple => exact pe_bltn g1 hm bn_tuple rfl (by decide) g2
  | list => exact pe_bltn g1 hm bn_list rfl (by decide) g2
  | str => exact pe_bltn g1 hm bn_str rfl (by decide) g2
  | dict => exact pe_bltn g1 hm bn_dict rfl (by decide) g2
def tTys : List (Pos × Tn) → TA
  | [] => tNil
  | q :: r => tCons (tC (.ty q.2.name)) (tTys r)
theorem pa_tys (C : Cz X n W wh nm S) : ∀ {ns : List (Pos × Tn)}, (ns.all fun q => glB X.env.scope (Str.ofString q.2.name)) = true → PA X (ns.map fun q => .Name (Str.ofString q.2.name) q.1) (tTys ns)
  | [], _ => pa_nil
  | q :: r, h => by
    rw [List.all_cons, Bool.and_eq_true] at h
    exact pa_cons (pe_ty C h.1) (pa_tys C h.2) rfl
theorem tys_read {σ : L2.St} {H : Hp} : ∀ {ns : List (Pos × Tn)} {Q : List V → Hp → Prop}, Q (ns.map fun q => .ty q.2.name) H → tTys ns σ H Q
  | [], _, h => h
  | q :: r, Q, h => tys_read (ns := r) (Q := fun xs H2 => Q (.ty q.2.name :: xs) H2) h
theorem tys_cls : ∀ ns : List (Pos × Tn), Paired ClsV (ns.map fun q => V.ty q.2.name) (ns.map fun q => Value.type q.2.name)
  | [] => .nil
  | q :: r => .cons (.ty q.2.name) (tys_cls r)
theorem pe_isiD (C : Cz X n W wh nm S) {p pn : Pos} {a : E} {t : Ty} (hg : glB X.env.scope "isinstance" = true) (ht : tyB X.env.scope t = true) (ha : Snd X W nm S a) (hz : ∀ p k ns, t = .many p k ns → ns.length ≤ sizeLine) : PE X (.Call (.Name "isinstance" pn) [astE nm a, t.ast] [] p) (tV X.K S.io W (isiV (evE S a) t)) := by
  obtain ⟨g1, g2⟩ := gl_of hg
  cases t with
  | one p' t =>
    refine PEimp (pe_callB call_isi g1 C.tx.oth.1 bn_isinstance (pa_cons ha.a (pa_cons (pe_ty C ht) pa_nil rfl) (star_ok a)) (by decide) g2 (star_ok a) rfl) fun σ H Q ⟨F, en, sl, h⟩ => ⟨F, en, sl, h.seq (Stp.refl sl) fun av F1 H1 en1 st h v hv => ?_⟩
    obtain ⟨d, ed, h⟩ := h.get
    obtain ⟨b, eb, h⟩ := h.get
    exact ⟨v, .ty t.name, _, _, b, rfl, .ty t.name, (hv.see st.sl ed).ty st.sl.sub, kit_ty eb, h.done F1 H1 st _ (.bl b)⟩
  | many p' k ns =>
    refine PEimp (pe_callB call_isiT g1 C.tx.oth.1 bn_isinstance (pa_cons ha.a (pa_cons (pe_tup (pa_tys C ht)) pa_nil rfl) (star_ok a)) (by decide) g2 (star_ok a) rfl) fun σ H Q ⟨F, en, sl, h⟩ => ⟨F, en, sl, h.seq (Stp.refl sl) fun av F1 H1 en1 st h v hv => ?_⟩
    refine tys_read ⟨by rw [List.length_map]; exact hz _ _ _ rfl, fun tp htp => ?_⟩
    obtain ⟨d, ed, h⟩ := h.get
    obtain ⟨b, eb, h⟩ := h.get
    have st2 := st.trans (Stp.laid (io := S.io) st.sl (o := .tup (ns.map fun q => V.ty q.2.name)) htp)
    have sb : Sub F1 (upd H1 tp (.tup (ns.map fun q => V.ty q.2.name))) := sub_new st.sl.sub htp
    have hs : See X.K F1 (upd H1 tp (.tup (ns.map fun q => V.ty q.2.name))) v d := by
      rcases hv.see st.sl ed with z | ⟨a, xs, ds, e1, e2, e3, e4⟩
      · exact .inl z
      · exact .inr ⟨a, xs, ds, e1, e2, by rw [upd_ne (ne_of_none e3 htp)]; exact e3, e4⟩
    exact ⟨v, tp, _, _, _, b, rfl, upd_same, tys_cls ns, hs.ty sb, isi_many eb, h.done F1 _ st2 _ (.bl b)⟩

/-! ### calls of the text's own defs -/
theorem split_at {α : Type} {l : List α} {p : Nat} {x : α} (h : l[p]? = some x) : l = l.take p ++ x :: l.drop (p + 1) := by
  obtain ⟨hl, e⟩ := List.getElem?_eq_some_iff.mp h
  subst e
  rw [List.getElem_cons_drop hl, List.take_append_drop]
theorem h0_of {K : PySem.W.Frag} {io : Option Nat} {σ : L2.St} {F H F1 H1 : Hp} {en en1 : En} (st : Stp K io σ F H en F1 H1 en1) {p : Addr} (hp : H1 p = none) : H p = none ∨ OwnAt σ en p := by
  by_cases ho : OwnAt σ en p
  · exact .inr ho
  · cases q : H p with
    | none => exact .inl rfl
    | some o => rw [st.keep p o q ho] at hp; cases hp
theorem notOwn_of {K : PySem.W.Frag} {σ : L2.St} {F1 H1 : Hp} {en1 : En} (sl : Sl K F1 H1 en1 σ) {p : Addr} (hp : H1 p = none) : ¬ OwnAt σ en1 p := fun ⟨i, ds, h1, h2⟩ => by
  obtain ⟨a, xs, h3, h4, _⟩ := sl.own i ds h1
  rw [h2] at h3
  cases h3
  rw [hp] at h4
  cases h4
/-- behind a call: a is the in-and-out list's address (none: there is none), which no slot of ours but i holds -/
theorem Stp.call {K : PySem.W.Frag} {io : Option Nat} {σ : L2.St} {F H F1 H1 F' H' : Hp} {en en1 en2 : En} {oa : Option Addr} {l : List D} (st : Stp K io σ F H en F1 H1 en1) (z : FnEnd K F1 H1 oa F' H' l)
    (hoa : ∀ a, oa = some a → F1 a = none ∧ H1 a ≠ none ∧ (H a = none ∨ OwnAt σ en a))
    (len : en2.length = en1.length) (val : ∀ (i : Nat) d, en2[i]? = some (.val d) → en1[i]? = some (.val d))
    (own : ∀ (i : Nat) ds, en2[i]? = some (.own ds) → (en1[i]? = some (.own ds) ∧ ∀ a, oa = some a → σ[i]? ≠ some (some (.ref a))) ∨ ∃ es a, en1[i]? = some (.own es) ∧ oa = some a ∧ σ[i]? = some (some (.ref a)) ∧ ds = l)
    (io2 : ∀ p, io = some p → (∃ ds, en1[p]? = some (.own ds)) → ∃ ds, en2[p]? = some (.own ds)) : Stp K io σ F H en F' H' en2 := by
  have fnone : ∀ a, F1 a = none → H1 a ≠ none → F' a = none := fun a h1 h2 => by
    cases q : F' a with
    | none => rfl
    | some o =>
      rcases z.new a (by rw [q]; exact (fun z => nomatch z)) with y | y
      · exact absurd h1 y
      · exact absurd y h2
  have own1 : ∀ (i : Nat) (ds : List D), en2[i]? = some (.own ds) → ∃ es : List D, en1[i]? = some (.own es) := fun i ds h => by
    rcases own i ds h with ⟨y, _⟩ | ⟨es, a, y, _⟩
    · exact ⟨ds, y⟩
    · exact ⟨es, y⟩
  refine ⟨⟨by rw [len]; exact st.sl.len, z.sub, fun i d h => ?_, fun i ds h => ?_, fun i j ds es a h1 h2 => ?_⟩, st.mono.trans z.mono, fun b h => ?_, fun b o h nb => ?_, fun i ds h => ?_, fun p hp h => io2 p hp (st.io' p hp h)⟩
  · obtain ⟨v, h1, h2⟩ := st.sl.val i d (val i d h)
    exact ⟨v, h1, h2.mono z.mono⟩
  · rcases own i ds h with ⟨h1, h2⟩ | ⟨es, a, h1, h2, h3, h4⟩
    · obtain ⟨b, xs, g1, g2, g3, g4⟩ := st.sl.own i ds h1
      exact ⟨b, xs, g1, z.keep b _ g2 fun e => h2 b e g1, fnone b g3 (by rw [g2]; exact (fun z => nomatch z)), g4.mono z.mono⟩
    · subst h4
      obtain ⟨xs, g1, g2, g3⟩ := z.io a h2
      exact ⟨a, xs, h3, g1, g2, g3⟩
  · obtain ⟨ds', g1⟩ := own1 i ds h1
    obtain ⟨es', g2⟩ := own1 j es h2
    exact st.sl.ap i j ds' es' a g1 g2
  · rcases z.new b h with y | y
    · exact st.new b y
    · rcases h0_of st y with y | y
      · exact .inr (.inl y)
      · exact .inr (.inr y)
  · refine z.keep b o (st.keep b o h nb) fun e => ?_
    rcases (hoa b e).2.2 with y | y
    · rw [h] at y; cases y
    · exact nb y
  · obtain ⟨es, h1⟩ := own1 i ds h
    exact st.own' i es h1
theorem rv_of {K : PySem.W.Frag} {io : Option Nat} {σ : L2.St} {F H F1 H1 F' H' : Hp} {en en1 en2 : En} {v : V} {r : Rv} (st : Stp K io σ F H en F1 H1 en1) (h : RvEnd K H1 F' H' v r) (hn : ∀ a, H1 a = none → ¬ OwnAt σ en2 a) : RvOk K σ H en F' H' en2 v r := by
  cases r with
  | val d => exact h
  | own ds =>
    obtain ⟨a, xs, rfl, h1, h2, h3, h4⟩ := h
    exact ⟨a, xs, rfl, h1, h2, h3, hn a h4, h0_of st h4⟩
theorem call_sp {σ : L2.St} {F H F1 H1 : Hp} {en en1 : En} {Q : VK} {f np : Nat} {avs : List Av} {vs : List V} (st : Stp X.K S.io σ F H en F1 H1 en1) (h : Wpx X.K S.io W σ F H en (callD S f avs en1) fun r F' H' en' => ∀ v, RvOk X.K σ H en F' H' en' v r → Q v H')
    (hvs : AvsOk X.K σ H en F1 H1 en1 vs avs) (hl : vs.length = np) : spD X.K (S.sio f) np (S.Φ f) vs H1 Q fun cls d H' => W cls d σ H' := by
  unfold callD at h
  cases hio : S.sio f with
  | none =>
    rw [hio] at h
    simp only at h
    split at h
    · rename_i ds hp
      refine ⟨F1, ds, none, hl, st.sl.sub, .plain (plainAll_of hvs hp), ?_⟩
      have step : ∀ {F' H' : Hp} {l : List D}, FnEnd X.K F1 H1 none F' H' l → Stp X.K S.io σ F H en F' H' en1 := fun z => st.call z (fun _ e => nomatch e) rfl (fun _ _ h => h) (fun i ds h => .inl ⟨h, fun _ e => nomatch e⟩) fun _ _ h => h
      split at h
      · rename_i r l hq
        rw [hq]
        exact fun F' H' v z rv => h.done F' H' (step z) v (rv_of st rv fun a => notOwn_of st.sl)
      · rename_i x l hq
        rw [hq]
        exact fun F' H' cls dd z ex => h F' H' cls dd (step z) ex
      · exact h.elim
    · exact h.elim
  | some p =>
    rw [hio] at h
    simp only at h
    split at h
    · rename_i da i db e1 e2 e3
      split at h
      · rename_i ds hi
        obtain ⟨v, hv1, hv2⟩ := hvs.get e2
        obtain ⟨a, xs, g1, g2, g3, g4⟩ := st.sl.own i ds hi
        have hv2 : σ[i]? = some (some v) := hv2
        rw [g1] at hv2
        cases hv2
        have r1 := plainAll_of (hvs.take p) e1
        have r2 := plainAll_of (hvs.drop (p + 1)) e3
        have hp : p < avs.length := (List.getElem?_eq_some_iff.mp e2).1
        have l1 : da.length = p := by
          rw [← r1.length, List.length_take, hvs.length]
          omega
        have ap := ArgsOk.io l1 r1 r2 g2 g3 g4
        rw [← split_at hv1] at ap
        refine ⟨F1, _, some a, hl, st.sl.sub, ap, ?_⟩
        have step : ∀ {F' H' : Hp} {l : List D}, FnEnd X.K F1 H1 (some a) F' H' l → Stp X.K S.io σ F H en F' H' (en1.set i (.own l)) := fun {F' H' l} z => by
          refine st.call z (fun b e => ?_) (by rw [List.length_set]) (fun j d h => ?_) (fun j es h => ?_) fun q hq ⟨es, h⟩ => ?_
          · cases e
            refine ⟨g3, (by rw [g2]; exact (fun z => nomatch z)), ?_⟩
            exact .inr (st.ownAt ⟨i, ds, hi, g1⟩)
          · by_cases e : i = j
            · subst e
              rw [set_get hi] at h
              cases h
            · rw [set_ne e] at h
              exact h
          · by_cases e : i = j
            · subst e
              rw [set_get hi] at h
              cases h
              exact .inr ⟨ds, a, hi, rfl, g1, rfl⟩
            · rw [set_ne e] at h
              refine .inl ⟨h, fun b eb hb => ?_⟩
              cases eb
              exact e (st.sl.ap i j ds es a hi h g1 hb)
          · by_cases e : i = q
            · subst e
              exact ⟨l, set_get hi⟩
            · rw [set_ne e]
              exact ⟨es, h⟩
        have noNew : ∀ l b, H1 b = none → ¬ OwnAt σ (en1.set i (.own l)) b := fun l b hb ⟨j, es, h1, h2⟩ => by
          by_cases e : i = j
          · subst e
            rw [g1] at h2
            cases h2
            rw [g2] at hb
            cases hb
          · rw [set_ne e] at h1
            exact notOwn_of st.sl hb ⟨j, es, h1, h2⟩
        split at h
        · rename_i r l hq
          rw [hq]
          exact fun F' H' v z rv => h.done F' H' (step z) v (rv_of st rv (noNew l))
        · rename_i x l hq
          rw [hq]
          exact fun F' H' cls dd z ex => h F' H' cls dd (step z) ex
        · exact h.elim
      · exact h.elim
    · rename_i da ds db e1 e2 e3
      obtain ⟨v, hv1, hv2⟩ := hvs.get e2
      obtain ⟨a, xs, rfl, g2, g3, g4, g5, g6⟩ := hv2
      have r1 := plainAll_of (hvs.take p) e1
      have r2 := plainAll_of (hvs.drop (p + 1)) e3
      have hp : p < avs.length := (List.getElem?_eq_some_iff.mp e2).1
      have l1 : da.length = p := by
        rw [← r1.length, List.length_take, hvs.length]
        omega
      have ap := ArgsOk.io l1 r1 r2 g2 g3 g4
      rw [← split_at hv1] at ap
      refine ⟨F1, _, some a, hl, st.sl.sub, ap, ?_⟩
      have step : ∀ {F' H' : Hp} {l : List D}, FnEnd X.K F1 H1 (some a) F' H' l → Stp X.K S.io σ F H en F' H' en1 := fun {F' H' l} z => by
        refine st.call z (fun b e => ?_) rfl (fun _ _ h => h) (fun j es h => ?_) fun _ _ h => h
        · cases e
          exact ⟨g3, (by rw [g2]; exact (fun z => nomatch z)), g6⟩
        · refine .inl ⟨h, fun b eb hb => ?_⟩
          cases eb
          exact g5 ⟨j, es, h, hb⟩
      split at h
      · rename_i r l hq
        rw [hq]
        exact fun F' H' v z rv => h.done F' H' (step z) v (rv_of st rv fun b => notOwn_of st.sl)
      · rename_i x l hq
        rw [hq]
        exact fun F' H' cls dd z ex => h F' H' cls dd (step z) ex
      · exact h.elim
    · exact h.elim
theorem evEs_len : ∀ es : Es, (evEs S es).length = es.len
  | .nil => rfl
  | .cons _ es => congrArg Nat.succ (evEs_len es)
theorem avsOf_len : ∀ {es : List Ev} {en : En} {avs : List Av} {en1 : En}, avsOf es en = .ok (avs, en1) → avs.length = es.length
  | [], _, _, _, h => by cases h; rfl
  | e :: es, en, avs, en1, h => by
    unfold avsOf at h
    cases q : e.a en with
    | bad => rw [q] at h; cases h
    | ex x e => rw [q] at h; cases h
    | ok q1 =>
      rw [q] at h
      simp only [Res.bind] at h
      cases q2 : avsOf es q1.2 with
      | bad => rw [q2] at h; cases h
      | ex x e => rw [q2] at h; cases h
      | ok z =>
        rw [q2] at h
        cases h
        exact congrArg Nat.succ (avsOf_len q2)
theorem pe_callD (C : Cz X n W wh nm S) {p pn : Pos} {f : Nat} {as : Es} (hf : f < wh.nf) (hg : glB X.env.scope (nm.fn f) = true) (hl : 1 ≤ as.len) (hn : as.len = wh.np f) (h : SndAll X W nm S as) :
    PE X (.Call (.Name (nm.fn f) pn) (astEs nm as) [] p) (tV X.K S.io W fun σ => (avsOf (evEs S as) σ).bind fun q => callD S f q.1 q.2) := by
  cases as with
  | nil => exact absurd hl (by decide)
  | cons e es =>
    obtain ⟨g1, g2⟩ := gl_of hg
    obtain ⟨fa, fd, ps, hps, FG, hm, hk, hb, _⟩ := C.tx.fns f hf
    refine PEimp (pe_callG FG C.gd.room C.gd.grd g1 hm hk hb C.tk h.as g2 (star_ok e) (stars_ok es)) fun σ H Q ⟨F, en, sl, h⟩ => ⟨F, en, sl, ?_⟩
    have hlen : ∀ avs en1, avsOf (evEs S (.cons e es)) en = .ok (avs, en1) → avs.length = wh.np f := fun avs en1 q => by
      rw [avsOf_len q, evEs_len, hn]
    have h : Wpx X.K S.io W σ F H en ((avsOf (evEs S (.cons e es)) en).bind fun q => callD S f q.1 q.2) _ := h
    cases q : avsOf (evEs S (.cons e es)) en with
    | bad => rw [q] at h; exact h
    | ex x e' => rw [q] at h; exact h
    | ok z =>
      obtain ⟨avs, en1⟩ := z
      rw [q] at h
      exact fun F1 H1 st vs hvs => call_sp st h hvs (by rw [hvs.length]; exact hlen avs en1 q)
/-! ### .. with keywords -/
theorem kw_keys : ∀ {ks : List (Str × Pos)} {vs : Es} {pos : Pos} {env : Env}, ks.length = vs.len →
    (backToKw pos (keywordEach (astKs nm ks vs) env)).all (·.1.isSome) = true ∧ (backToKw pos (keywordEach (astKs nm ks vs) env)).filterMap (·.1) = ks.map (·.1) ∧ (backToKw pos (keywordEach (astKs nm ks vs) env)).any (·.1.isNone) = false
  | [], vs, pos, env, _ => by
    unfold astKs
    exact ⟨rfl, rfl, rfl⟩
  | q :: ks, .nil, _, _, h => by cases h
  | q :: ks, .cons e es, pos, env, h => by
    obtain ⟨h1, h2, h3⟩ := kw_keys (ks := ks) (vs := es) (pos := pos) (env := env) (Nat.succ.inj h)
    unfold astKs
    refine ⟨?_, ?_, ?_⟩
    · show (true && (backToKw pos (keywordEach (astKs nm ks es) env)).all (·.1.isSome)) = true
      rw [h1]; rfl
    · show q.1 :: (backToKw pos (keywordEach (astKs nm ks es) env)).filterMap (·.1) = _
      rw [h2]; rfl
    · show (false || (backToKw pos (keywordEach (astKs nm ks es) env)).any (·.1.isNone)) = false
      rw [h3]; rfl
theorem pk_all : ∀ {ks : List (Str × Pos)} {vs : Es}, ks.length = vs.len → SndEach X W nm S vs → PK X (astKs nm ks vs) (tAs X.K S.io W (avsOf (evEs S vs)))
  | [], .nil, _, _ => by
    unfold astKs
    exact ⟨fun pos pins s σ H Q I ⟨F, en, sl, h⟩ => (pk_nil).run pos pins s σ H Q I (h.done F H (Stp.refl sl) [] trivial)⟩
  | [], .cons _ _, h, _ => by cases h
  | _ :: _, .nil, h, _ => by cases h
  | q :: ks, .cons e es, h, hs => by
    have ih := pk_all (ks := ks) (vs := es) (Nat.succ.inj h) hs.2
    unfold astKs
    refine ⟨fun pos pins s σ H Q I ⟨F, en, sl, h⟩ => (pk_cons (nm := some q.1) (kpos := q.2) hs.1.a ih).run pos pins s σ H Q I ⟨F, en, sl, h.seq (Stp.refl sl) fun d F1 H1 en1 st1 h v hv => ⟨F1, en1, st1.sl, h.seq st1 fun ds F2 H2 en2 st2 h vs hvs => ?_⟩⟩⟩
    exact h.done F2 H2 (st1.trans st2) (v :: vs) ⟨hv.later st2, hvs.from st1⟩
theorem permV_of {α : Type} {us ws l : List α} {pm : List Nat} (h : permD (us ++ ws) pm = some l) : permV pm us ws = l := by
  unfold permV
  rw [h]
  rfl
end
end Mp

end

section
namespace Mp
open PySem PySem.Spec PyProof.Rows L2

/-! ### what is walked -/
section
variable {K : PySem.W.Frag} {F F0 H : Hp} {io : Option Nat} {σ : L2.St} {en : En}
theorem RpAll.get' : ∀ {vs : List V} {ds : List D} {i : Nat} {v : V}, RpAll K F vs ds → vs[i]? = some v → ∃ d, ds[i]? = some d ∧ Rp K F v d
  | _, _, _, _, .nil, e => by simp at e
  | _, _, 0, _, .cons h _, e => by simp at e; subst e; exact ⟨_, rfl, h⟩
  | _, _, i + 1, d, .cons _ r, e => by
    obtain ⟨v, h1, h2⟩ := RpAll.get' (i := i) r (by simpa using e)
    exact ⟨v, by simpa using h1, h2⟩
/-- the list that is walked stands as at the start -/
def LkAt (K : PySem.W.Frag) (F H : Hp) (oa : Option Addr) (ds : List D) : Prop := ∀ a, oa = some a → ∃ xs, H a = some (.lst xs) ∧ RpAll K F xs ds
def GW (K : PySem.W.Frag) (F0 : Hp) (oa : Option Addr) (ds : List D) : Hp → Prop := fun H => ∃ F, Sub F0 F ∧ Sub F H ∧ LkAt K F H oa ds
/-- what a turn gives -/
def YldOk (K : PySem.W.Frag) (F H : Hp) (x : V) (d : D) (H' : Hp) : Prop :=
  (H' = H ∧ Rp K F x d) ∨ ∃ T xs es, d = .tuple es ∧ x = .ref T ∧ H T = none ∧ H' = upd H T (.tup xs) ∧ RpAll K F xs es
def YW (K : PySem.W.Frag) (F0 : Hp) (oa : Option Addr) (ds : List D) : Nat → Hp → V → Hp → Prop := fun i H x H' => ∀ F, Sub F0 F → Sub F H → LkAt K F H oa ds → ∃ d, ds[i]? = some d ∧ YldOk K F H x d H'
def WkOk (K : PySem.W.Frag) (F0 : Hp) (oa : Option Addr) (ds : List D) (J : L2.It) : Prop := Walk J ds.length (GW K F0 oa ds) (YW K F0 oa ds)
theorem wk_list {a : Addr} {xs : List V} {ds : List D} (h : SqL K F0 a xs) (r : RpAll K F0 xs ds) : WkOk K F0 none ds (Itl K a) := by
  unfold WkOk
  rw [← r.length]
  refine walk_list.mono (fun H ⟨F, s1, s2, _⟩ => (s1.trans s2).seq h) fun i H x H' hi _ y F s1 s2 _ => ?_
  obtain ⟨e, y⟩ := y
  obtain ⟨d, h1, h2⟩ := r.get' y
  exact ⟨d, h1, .inl ⟨e, h2.mono s1⟩⟩
theorem wk_tup {a : Addr} {xs : List V} {ds : List D} (h : SqT K F0 a xs) (r : RpAll K F0 xs ds) : WkOk K F0 none ds (Itt K a) := by
  unfold WkOk
  rw [← r.length]
  refine walk_tup.mono (fun H ⟨F, s1, s2, _⟩ => Sub.seqT (s1.trans s2) h) fun i H x H' hi _ y F s1 s2 _ => ?_
  obtain ⟨e, y⟩ := y
  obtain ⟨d, h1, h2⟩ := r.get' y
  exact ⟨d, h1, .inl ⟨e, h2.mono s1⟩⟩
theorem wk_own {a : Addr} {ds : List D} : WkOk K F0 (some a) ds (Itl K a) := by
  refine ⟨fun i H hi ⟨F, s1, s2, lk⟩ => ?_, fun H ⟨F, s1, s2, lk⟩ => ?_, fun i H x H' hi _ y F s1 s2 lk => ?_⟩
  · obtain ⟨xs, h1, h2⟩ := lk a rfl
    have hl : i < xs.length := by rw [h2.length]; exact hi
    exact ⟨xs, xs[i], SqL.of h1, by simp [hl]⟩
  · obtain ⟨xs, h1, h2⟩ := lk a rfl
    exact ⟨xs, SqL.of h1, by rw [h2.length]; exact Nat.le_refl _⟩
  · obtain ⟨xs, h1, h2⟩ := lk a rfl
    obtain ⟨e, y⟩ := y
    obtain ⟨d, h3, h4⟩ := h2.get' (y xs (SqL.of h1))
    exact ⟨d, h3, .inl ⟨e, h4⟩⟩
theorem wk_range {lo hi : Int} : WkOk K F0 none (rngD lo hi) (Itr lo (hi - lo).toNat) := by
  have hl : (rngD lo hi).length = (hi - lo).toNat := by unfold rngD; simp
  unfold WkOk
  rw [hl]
  refine walk_range.mono (fun _ _ => trivial) fun i H x H' hi _ y F s1 s2 _ => ?_
  obtain ⟨e, y⟩ := y
  refine ⟨.int (lo + (i : Nat)), ?_, .inl ⟨e, ?_⟩⟩
  · unfold rngD
    rw [List.getElem?_map, List.getElem?_range hi]
    rfl
  · rw [y]
    exact .int _
theorem zipD_get : ∀ {xs ys : List D} {i : Nat} {x y : D}, xs[i]? = some x → ys[i]? = some y → (zipD xs ys)[i]? = some (.tuple [x, y]) := fun {xs ys i x y} h1 h2 => by
  unfold zipD
  rw [List.getElem?_zipWith, h1, h2]
theorem zipD_len {xs ys : List D} : (zipD xs ys).length = min xs.length ys.length := List.length_zipWith
theorem wk_zip {a b : Addr} {xs ys : List V} {ds es : List D} (h1 : SqL K F0 a xs) (h2 : SqL K F0 b ys) (r1 : RpAll K F0 xs ds) (r2 : RpAll K F0 ys es) : WkOk K F0 none (zipD ds es) (Itz K a b) := by
  have l1 := r1.length
  have l2 := r2.length
  refine ⟨fun i H hi ⟨F, s1, s2, _⟩ => ?_, fun H ⟨F, s1, s2, _⟩ => ?_, fun i H x H' hi _ y F s1 s2 _ => ?_⟩
  · rw [zipD_len] at hi
    have p1 : i < xs.length := by omega
    have p2 : i < ys.length := by omega
    exact ⟨xs, ys, xs[i], ys[i], (s1.trans s2).seq h1, (s1.trans s2).seq h2, by simp [p1], by simp [p2]⟩
  · refine ⟨xs, ys, (s1.trans s2).seq h1, (s1.trans s2).seq h2, ?_⟩
    rw [zipD_len]
    omega
  · obtain ⟨T, x', y', rfl, hT, rfl, f1, f2⟩ := y
    obtain ⟨d, e1, e2⟩ := r1.get' (f1 xs ((s1.trans s2).seq h1))
    obtain ⟨e, e3, e4⟩ := r2.get' (f2 ys ((s1.trans s2).seq h2))
    exact ⟨_, zipD_get e1 e3, .inr ⟨T, _, _, rfl, rfl, hT, rfl, .cons (e2.mono s1) (.cons (e4.mono s1) .nil)⟩⟩
theorem wk_zipT {a b : Addr} {xs ys : List V} {ds es : List D} (h1 : SqT K F0 a xs) (h2 : SqT K F0 b ys) (r1 : RpAll K F0 xs ds) (r2 : RpAll K F0 ys es) : WkOk K F0 none (zipD ds es) (RZ.ItzT K a b) := by
  have l1 := r1.length
  have l2 := r2.length
  refine ⟨fun i H hi ⟨F, s1, s2, _⟩ => ?_, fun H ⟨F, s1, s2, _⟩ => ?_, fun i H x H' hi _ y F s1 s2 _ => ?_⟩
  · rw [zipD_len] at hi
    have p1 : i < xs.length := by omega
    have p2 : i < ys.length := by omega
    exact ⟨xs, ys, xs[i], ys[i], Sub.seqT (s1.trans s2) h1, Sub.seqT (s1.trans s2) h2, by simp [p1], by simp [p2]⟩
  · refine ⟨xs, ys, Sub.seqT (s1.trans s2) h1, Sub.seqT (s1.trans s2) h2, ?_⟩
    rw [zipD_len]
    omega
  · obtain ⟨T, x', y', rfl, hT, rfl, f1, f2⟩ := y
    obtain ⟨d, e1, e2⟩ := r1.get' (f1 xs (Sub.seqT (s1.trans s2) h1))
    obtain ⟨e, e3, e4⟩ := r2.get' (f2 ys (Sub.seqT (s1.trans s2) h2))
    exact ⟨_, zipD_get e1 e3, .inr ⟨T, _, _, rfl, rfl, hT, rfl, .cons (e2.mono s1) (.cons (e4.mono s1) .nil)⟩⟩
theorem enum_get : ∀ {xs : List D} {k i : Nat} {x : D}, xs[i]? = some x → (enumFrom k xs)[i]? = some (.tuple [.int ((k + i : Nat) : Int), x])
  | [], _, _, _, h => by simp at h
  | y :: xs, k, 0, x, h => by
    simp at h
    subst h
    rfl
  | y :: xs, k, i + 1, x, h => by
    have ih := enum_get (xs := xs) (k := k + 1) (i := i) (x := x) (by simpa using h)
    have e : k + 1 + i = k + (i + 1) := by omega
    rw [e] at ih
    unfold enumFrom
    rw [List.getElem?_cons_succ]
    exact ih
theorem enum_len : ∀ (xs : List D) (k : Nat), (enumFrom k xs).length = xs.length
  | [], _ => rfl
  | _ :: xs, k => congrArg Nat.succ (enum_len xs (k + 1))
theorem wk_enum {a : Addr} {xs : List V} {ds : List D} (h1 : SqL K F0 a xs) (r1 : RpAll K F0 xs ds) : WkOk K F0 none (enumFrom 0 ds) (Ite K a) := by
  have l1 := r1.length
  refine ⟨fun i H hi ⟨F, s1, s2, _⟩ => ?_, fun H ⟨F, s1, s2, _⟩ => ?_, fun i H x H' hi _ y F s1 s2 _ => ?_⟩
  · rw [enum_len] at hi
    have p1 : i < xs.length := by omega
    exact ⟨xs, xs[i], (s1.trans s2).seq h1, by simp [p1]⟩
  · refine ⟨xs, (s1.trans s2).seq h1, ?_⟩
    rw [enum_len]
    omega
  · obtain ⟨T, x', rfl, hT, rfl, f1⟩ := y
    obtain ⟨d, e1, e2⟩ := r1.get' (f1 xs ((s1.trans s2).seq h1))
    have e3 := enum_get (k := 0) e1
    rw [Nat.zero_add] at e3
    exact ⟨_, e3, .inr ⟨T, _, _, rfl, rfl, hT, rfl, .cons (.int _) (.cons (e2.mono s1) .nil)⟩⟩
/-- a turn's item as a value that never changes -/
theorem yld_step {x : V} {d : D} {H' : Hp} (sl : Sl K F H en σ) (y : YldOk K F H x d H') : ∃ F', Stp K io σ F H en F' H' en ∧ Rp K F' x d := by
  rcases y with ⟨rfl, y⟩ | ⟨T, xs, es, rfl, rfl, hT, rfl, r⟩
  · exact ⟨F, Stp.refl sl, y⟩
  · have c : Cont K io σ F H en en (.val (.tuple es)) fun v H' => ∃ F', Stp K io σ F H en F' H' en ∧ Rp K F' v (.tuple es) := fun F' H' v s h => ⟨F', s, h⟩
    exact c.tup (Stp.refl sl) r hT

/-- an iterator comes: its items, the own list that is walked -/
def tI (K : PySem.W.Frag) (io : Option Nat) (W : WX) (g : En → R (Src × En)) : TI := fun σ H R => ∃ F en, Sl K F H en σ ∧ Wpx K io W σ F H en (g en) fun src F' H' en' =>
  ∀ J oa, (∀ a, oa = some a → ∃ i, src.2 = some i ∧ σ[i]? = some (some (.ref a))) → WkOk K F' oa src.1 J → R J H'
end
section
variable {X : Cx} {n : Nat} {W : WX} {wh : Wh} {nm : Nm} {S : Sc}
theorem PIimp {tg e : Expr} {t t' : TI} (h : PI X tg e t) (f : ∀ σ H Q, t' σ H Q → t σ H Q) : PI X tg e t' := ⟨fun pins s σ H Q I q => h.run pins s σ H Q I (f σ H Q q)⟩
def iSeq (K : PySem.W.Frag) (tl : TE) : TI := fun σ H R => tl σ H fun x H1 => ∃ a, x = .ref a ∧ ((∃ xs, SqL K H1 a xs ∧ R (Itl K a) H1) ∨ ∃ xs, SqT K H1 a xs ∧ R (Itt K a) H1)
theorem pi_seq {tg l : Expr} {tl : TE} (hl : PE X l tl) : PI X tg l (iSeq X.K tl) := by
  refine ⟨fun pins s σ H R I h => ?_⟩
  refine thn (hl.run pins s σ H _ I h) fun v s1 ⟨x, H1, I1, r1, q1⟩ => ?_
  obtain ⟨a, e, q1⟩ := q1
  subst e
  cases r1
  rcases q1 with ⟨xs, hq, q⟩ | ⟨xs, hq, q⟩
  · obtain ⟨its, rv, p, hz⟩ := I1.list hq
    refine wpAny_pyIter_list p.isList ?_
    refine ⟨s1.heap.objs.size, [s1.heap.objs.size], _, _, H1, rfl, I1.kept (t' := s1.toks) fun b o e => Heap.get?_push_of_some _ e, turn_list a _, ⟨_, Heap.get?_push_size _ rfl, rfl, rfl⟩, fun b hb => ?_, q⟩
    have e : b = s1.heap.objs.size := by simpa using hb
    subst e
    exact I1.fpOk (Nat.le_refl _) (I1.hok.fresh (Nat.le_refl _))
  · obtain ⟨its, rv, p, hz⟩ := I1.tuple hq
    refine wpAny_pyIter_tuple (show s1.heap.IsTuple a its.toArray from p) ?_
    refine ⟨s1.heap.objs.size, [s1.heap.objs.size], _, _, H1, rfl, I1.kept (t' := s1.toks) fun b o e => Heap.get?_push_of_some _ e, turn_tuple a _, ⟨_, Heap.get?_push_size _ rfl, rfl, rfl⟩, fun b hb => ?_, q⟩
    have e : b = s1.heap.objs.size := by simpa using hb
    subst e
    exact I1.fpOk (Nat.le_refl _) (I1.hok.fresh (Nat.le_refl _))
/-- the iterable's terms are sound -/
def SndIt (X : Cx) (W : WX) (nm : Nm) (S : Sc) : It → Prop
  | .seq e => Snd X W nm S e
  | .rng1 _ _ a => Snd X W nm S a
  | .rng2 _ _ a b => Snd X W nm S a ∧ Snd X W nm S b
  | .zip _ _ a b => Snd X W nm S a ∧ Snd X W nm S b
  | .enum _ _ a => Snd X W nm S a
theorem small62_of {j : Int} (h : small62 j = true) : -(2 ^ 62) ≤ j ∧ j < 2 ^ 62 := of_decide_eq_true h
theorem star1 {e : E} : starEach [astE nm e] X.env = [(false, eval (astE nm e) X.env)] := by
  rw [star_ok]
  rfl
theorem pa_d1 {a : E} (h : Snd X W nm S a) : PA X [astE nm a] (tDs X.K S.io W (dsOf [evE S a])) := (sndAll_cons h sndAll_nil).ds
theorem pa_d2 {a b : E} (h : Snd X W nm S a) (h' : Snd X W nm S b) : PA X [astE nm a, astE nm b] (tDs X.K S.io W (dsOf [evE S a, evE S b])) := (sndAll_cons h (sndAll_cons h' sndAll_nil)).ds
theorem ds1_seq {a : Ev} {α : Type} {en : En} {k : D × En → R α} : (a.d en).bind k = (dsOf [a] en).bind fun q => match q.1 with
    | [d] => k (d, q.2)
    | _ => .bad := by
  unfold dsOf dsOf
  cases a.d en <;> rfl
theorem ds2_seq {a b : Ev} {α : Type} {en : En} {k : D → D × En → R α} : ((a.d en).bind fun p => (b.d p.2).bind fun q => k p.1 q) = (dsOf [a, b] en).bind fun q => match q.1 with
    | [d, e] => k d (e, q.2)
    | _ => .bad := by
  unfold dsOf dsOf dsOf
  cases a.d en with
  | bad => rfl
  | ex x e => rfl
  | ok p =>
    simp only [Res.bind]
    cases b.d p.2 <;> rfl
theorem Rp.intAt {K : PySem.W.Frag} {F : Hp} {v : V} {j : Int} (h : Rp K F v (.int j)) : v = .int j := by
  cases h
  rfl
theorem tupT {tg : Tg} (h : isTup tg = true) : ∃ p k ts, astTg nm tg = .Tuple (astTgs nm ts) k p := by
  cases tg with
  | tup p k ts => exact ⟨p, k, ts, rfl⟩
  | _ => cases h
theorem pi_it (C : Cz X n W wh nm S) {tg : Tg} {it : It} (hc : chIt nm wh X.env.scope it = true) (ht : itTg it tg = true) (h : SndIt X W nm S it) : PI X (astTg nm tg) (astIt nm it) (tI X.K S.io W (evIt S it)) := by
  cases it with
  | seq e =>
    refine PIimp (pi_seq h.a) fun σ H R ⟨F, en, sl, h⟩ => ⟨F, en, sl, h.seq (Stp.refl sl) fun av F1 H1 en1 st h v hv => ?_⟩
    cases av with
    | dat d =>
      cases d with
      | list ds =>
        obtain ⟨a, xs, e, h1, h2⟩ := Rp.listAt hv
        exact ⟨a, e, .inl ⟨xs, st.sl.sub.seq h1, h.done F1 H1 st _ none (fun _ e => nomatch e) (wk_list h1 h2)⟩⟩
      | tuple ds =>
        obtain ⟨a, xs, e, h1, h2⟩ := Rp.tupleAt hv
        exact ⟨a, e, .inr ⟨xs, Sub.seqT st.sl.sub h1, h.done F1 H1 st _ none (fun _ e => nomatch e) (wk_tup h1 h2)⟩⟩
      | _ => exact h.elim
    | pk i =>
      have hv : σ[i]? = some (some v) := hv
      simp only at h
      split at h
      · rename_i ds q
        obtain ⟨a, xs, h1, h2, _, h4⟩ := st.sl.own i ds q
        rw [h1] at hv
        cases hv
        exact ⟨a, rfl, .inl ⟨xs, SqL.of h2, h.done F1 H1 st _ (some a) (fun b e => by cases e; exact ⟨i, rfl, h1⟩) wk_own⟩⟩
      · exact h.elim
    | own ds => exact h.elim
  | rng1 p pn a =>
    have hc : (glB X.env.scope "range" && chE nm wh X.env.scope a) = true := hc
    rw [Bool.and_eq_true] at hc
    refine PIimp (pi_range1 (gl_of hc.1).1 C.tx.oth.2.1 (pa_d1 h) star1) fun σ H R ⟨F, en, sl, h⟩ => ?_
    have h : Wpx X.K S.io W σ F H en (rng1It (evE S a) en) _ := h
    unfold rng1It at h
    rw [ds1_seq] at h
    refine ⟨F, en, sl, h.seq (Stp.refl sl) fun ds F1 H1 en1 st h vs hv => ?_⟩
    cases hv with
    | nil => exact h.elim
    | cons r rr =>
      cases rr with
      | cons _ _ => exact h.elim
      | nil =>
        simp only at h
        split at h
        · rename_i d j
          obtain ⟨hz, h⟩ := h.need
          cases r
          obtain ⟨z1, z2⟩ := small62_of hz
          have wk : WkOk X.K F1 none (rngD 0 j) (Itr 0 j.toNat) := by
            have w := wk_range (K := X.K) (F0 := F1) (lo := 0) (hi := j)
            rw [Int.sub_zero] at w
            exact w
          exact ⟨j, rfl, z1, z2, h.done F1 H1 st _ none (fun _ e => nomatch e) wk⟩
        · exact h.elim
  | rng2 p pn a b =>
    have hc : (glB X.env.scope "range" && (chE nm wh X.env.scope a && chE nm wh X.env.scope b)) = true := hc
    rw [Bool.and_eq_true] at hc
    refine PIimp (pi_range2 (gl_of hc.1).1 C.tx.oth.2.1 (pa_d2 h.1 h.2) (by rw [star_ok, star1]) star1) fun σ H R ⟨F, en, sl, h⟩ => ?_
    have e : rng2It (evE S a) (evE S b) en = _ := ds2_seq (k := fun d z => match d, z.1 with
      | .int i, .int j => .need (small62 i && small62 j) (.ok ((rngD i j, none), z.2))
      | _, _ => .bad)
    have h : Wpx X.K S.io W σ F H en (rng2It (evE S a) (evE S b) en) _ := h
    rw [e] at h
    refine ⟨F, en, sl, h.seq (Stp.refl sl) fun ds F1 H1 en1 st h vs hv => ?_⟩
    cases hv with
    | nil => exact h.elim
    | cons r rr =>
      cases rr with
      | nil => exact h.elim
      | cons r' rr =>
        cases rr with
        | cons _ _ => exact h.elim
        | nil =>
          simp only at h
          split at h
          · rename_i i j
            obtain ⟨hz, h⟩ := h.need
            rw [Bool.and_eq_true] at hz
            cases r
            cases r'
            obtain ⟨z1, z2⟩ := small62_of hz.1
            obtain ⟨z3, z4⟩ := small62_of hz.2
            exact ⟨i, j, rfl, ⟨z1, z2, z3, z4⟩, h.done F1 H1 st _ none (fun _ e => nomatch e) wk_range⟩
          · exact h.elim
  | zip p pn a b =>
    have hc : (glB X.env.scope "zip" && (chE nm wh X.env.scope a && chE nm wh X.env.scope b)) = true := hc
    rw [Bool.and_eq_true] at hc
    have ht' : isTup tg = true := by cases tg <;> first | rfl | cases ht
    obtain ⟨p', k', ts', e'⟩ := tupT (nm := nm) ht'
    rw [e']
    refine PIimp (RZ.pi_zipA (gl_of hc.1).1 C.tx.oth.2.2.1 (pa_d2 h.1 h.2) (star_ok a) (by rw [star1]; rfl)) fun σ H R ⟨F, en, sl, h⟩ => ?_
    have e : zipIt (evE S a) (evE S b) en = _ := ds2_seq (k := fun d z => match d, z.1 with
      | .list xs, .list ys => .ok ((zipD xs ys, none), z.2)
      | .tuple xs, .tuple ys => .ok ((zipD xs ys, none), z.2)
      | _, _ => .bad)
    have h : Wpx X.K S.io W σ F H en (zipIt (evE S a) (evE S b) en) _ := h
    rw [e] at h
    refine ⟨F, en, sl, h.seq (Stp.refl sl) fun ds F1 H1 en1 st h vs hv => ?_⟩
    cases hv with
    | nil => exact h.elim
    | cons r rr =>
      cases rr with
      | nil => exact h.elim
      | cons r' rr =>
        cases rr with
        | cons _ _ => exact h.elim
        | nil =>
          simp only at h
          split at h
          · obtain ⟨a1, xs, rfl, h1, h2⟩ := Rp.listAt r
            obtain ⟨a2, ys, rfl, h3, h4⟩ := Rp.listAt r'
            exact ⟨a1, a2, xs, ys, rfl, .inl ⟨st.sl.sub.seq h1, st.sl.sub.seq h3, h.done F1 H1 st _ none (fun _ e => nomatch e) (wk_zip h1 h3 h2 h4)⟩⟩
          · obtain ⟨a1, xs, rfl, h1, h2⟩ := Rp.tupleAt r
            obtain ⟨a2, ys, rfl, h3, h4⟩ := Rp.tupleAt r'
            exact ⟨a1, a2, xs, ys, rfl, .inr ⟨Sub.seqT st.sl.sub h1, Sub.seqT st.sl.sub h3, h.done F1 H1 st _ none (fun _ e => nomatch e) (wk_zipT h1 h3 h2 h4)⟩⟩
          · exact h.elim
  | enum p pn a =>
    have hc : (glB X.env.scope "enumerate" && chE nm wh X.env.scope a) = true := hc
    rw [Bool.and_eq_true] at hc
    have ht' : isTup tg = true := by cases tg <;> first | rfl | cases ht
    obtain ⟨p', k', ts', e'⟩ := tupT (nm := nm) ht'
    rw [e']
    refine PIimp (pi_enum (gl_of hc.1).1 C.tx.oth.2.2.2 (pa_d1 h) star1) fun σ H R ⟨F, en, sl, h⟩ => ?_
    have h : Wpx X.K S.io W σ F H en (enumIt (evE S a) en) _ := h
    unfold enumIt at h
    rw [ds1_seq] at h
    refine ⟨F, en, sl, h.seq (Stp.refl sl) fun ds F1 H1 en1 st h vs hv => ?_⟩
    cases hv with
    | nil => exact h.elim
    | cons r rr =>
      cases rr with
      | cons _ _ => exact h.elim
      | nil =>
        simp only at h
        split at h
        · obtain ⟨a1, xs, rfl, h1, h2⟩ := Rp.listAt r
          exact ⟨a1, xs, rfl, st.sl.sub.seq h1, h.done F1 H1 st _ none (fun _ e => nomatch e) (wk_enum h1 h2)⟩
        · exact h.elim
end
end Mp

end

section
namespace Mp
open PySem PySem.Spec PyProof.Rows L2

/-! ### targets -/
/-- from slots to slots: those of P have been given values -/
structure TgOk (io : Option Nat) (P : Nat → Prop) (σ : L2.St) (en : En) (σ' : L2.St) (en' : En) : Prop where
  len : σ'.length = σ.length
  at' : ∀ j, (en'[j]? = en[j]? ∧ σ'[j]? = σ[j]?) ∨ ((∃ d, en'[j]? = some (.val d)) ∧ io ≠ some j ∧ P j)
section
variable {K : PySem.W.Frag} {io : Option Nat} {P : Nat → Prop} {σ σ1 σ2 : L2.St} {en en1 en2 : En} {F H : Hp}
theorem TgOk.refl : TgOk io P σ en σ en := ⟨rfl, fun _ => .inl ⟨rfl, rfl⟩⟩
theorem TgOk.trans (h1 : TgOk io P σ en σ1 en1) (h2 : TgOk io P σ1 en1 σ2 en2) : TgOk io P σ en σ2 en2 := by
  refine ⟨h2.len.trans h1.len, fun j => ?_⟩
  rcases h2.at' j with ⟨a, b⟩ | h
  · rcases h1.at' j with ⟨c, d⟩ | ⟨⟨d, e⟩, r⟩
    · exact .inl ⟨a.trans c, b.trans d⟩
    · exact .inr ⟨⟨d, a.trans e⟩, r⟩
  · exact .inr h
theorem Sl.put (sl : Sl K F H en σ) {i : Nat} {v : V} {d : D} (hi : i < en.length) (r : Rp K F v d) : Sl K F H (en.set i (.val d)) (σ.set i (some v)) where
  len := by rw [List.length_set, List.length_set]; exact sl.len
  sub := sl.sub
  val := fun j e h => by
    by_cases ei : i = j
    · subst ei
      rw [List.getElem?_set_self hi] at h
      cases h
      exact ⟨v, List.getElem?_set_self (by rw [← sl.len]; exact hi), r⟩
    · rw [List.getElem?_set_ne ei] at h ⊢
      exact sl.val j e h
  own := fun j e h => by
    by_cases ei : i = j
    · subst ei
      rw [List.getElem?_set_self hi] at h
      cases h
    · rw [List.getElem?_set_ne ei] at h ⊢
      exact sl.own j e h
  ap := fun j k ds es a h1 h2 => by
    by_cases ei : i = j
    · subst ei
      rw [List.getElem?_set_self hi] at h1
      cases h1
    · by_cases ej : i = k
      · subst ej
        rw [List.getElem?_set_self hi] at h2
        cases h2
      · rw [List.getElem?_set_ne ei] at h1 ⊢
        rw [List.getElem?_set_ne ej] at h2 ⊢
        exact sl.ap j k ds es a h1 h2
theorem TgOk.put {i : Nat} {v : V} {d : D} (hi : i < en.length) (hio : io ≠ some i) (hp : P i) : TgOk io P σ en (σ.set i (some v)) (en.set i (.val d)) := by
  refine ⟨List.length_set, fun j => ?_⟩
  by_cases e : i = j
  · subst e
    exact .inr ⟨⟨d, List.getElem?_set_self hi⟩, hio, hp⟩
  · exact .inl ⟨List.getElem?_set_ne e, List.getElem?_set_ne e⟩
def tTg (K : PySem.W.Frag) (io : Option Nat) (P : Nat → Prop) (f : Rv → En → R En) : TG := fun v σ H Q => ∃ F en d, Sl K F H en σ ∧ Rp K F v d ∧ ∃ en', f (.val d) en = .ok en' ∧ ∀ σ', Sl K F H en' σ' → TgOk io P σ en σ' en' → Q σ' H
def tTgs (K : PySem.W.Frag) (io : Option Nat) (P : Nat → Prop) (f : List D → En → R En) : TGs := fun vs σ H Q => ∃ F en ds, Sl K F H en σ ∧ RpAll K F vs ds ∧ ∃ en', f ds en = .ok en' ∧ ∀ σ', Sl K F H en' σ' → TgOk io P σ en σ' en' → Q σ' H
end
section
variable {X : Cx} {n : Nat} {W : WX} {wh : Wh} {nm : Nm} {S : Sc}
theorem PGimp {e : Expr} {t t' : TG} (h : PG X e t) (f : ∀ v σ H Q, t' v σ H Q → t v σ H Q) : PG X e t' := ⟨fun pins s σ H v u Q I r q => h.run pins s σ H v u Q I r (f v σ H Q q)⟩
theorem PGsimp {es : List Expr} {t t' : TGs} (h : PGs X es t) (f : ∀ v σ H Q, t' v σ H Q → t v σ H Q) : PGs X es t' := ⟨fun pins s σ H v u Q I r q => h.run pins s σ H v u Q I r (f v σ H Q q)⟩
/-- a local's name, by what a scope says of it -/
def LocOk (X : Cx) (x : Str) : Prop := Loc X.env.scope x ∧ (X.fn x = true ∨ X.env.scope.names.lookup x = some .local)
theorem each_ok {env : Env} {es : List Expr} : ∀ t : Tg, assignEach (astTg nm t :: es) env = (false, assign (astTg nm t) env) :: assignEach es env
  | .nm .. => by simp only [astTg] <;> rfl
  | .nmo .. => by simp only [astTg] <;> rfl
  | .tup .. => by simp only [astTg] <;> rfl
  | .sub .. => by simp only [astTg] <;> rfl
theorem eachs_len {env : Env} : ∀ ts : Tgs, (assignEach (astTgs nm ts) env).length = ts.len
  | .nil => rfl
  | .cons t ts => by
    show (assignEach (astTg nm t :: astTgs nm ts) env).length = _
    rw [each_ok, List.length_cons, eachs_len]
    rfl
theorem eachs_star {env : Env} : ∀ ts : Tgs, (assignEach (astTgs nm ts) env).findIdx? (·.1) = none
  | .nil => rfl
  | .cons t ts => by
    show (assignEach (astTg nm t :: astTgs nm ts) env).findIdx? (·.1) = none
    rw [each_ok, List.findIdx?_cons, eachs_star ts]
    rfl
theorem evTgs_nil {ds : List D} {en en' : En} (h : evTgs S .nil ds en = .ok en') : ds = [] ∧ en' = en := by
  have h : (match ds with
    | [] => (.ok en : R En)
    | _ => .bad) = .ok en' := h
  split at h
  · cases h
    exact ⟨rfl, rfl⟩
  · cases h
theorem evTgs_cons {t : Tg} {ts : Tgs} {ds : List D} {en en' : En} (h : evTgs S (.cons t ts) ds en = .ok en') : ∃ d r en1, ds = d :: r ∧ evTg S t (.val d) en = .ok en1 ∧ evTgs S ts r en1 = .ok en' := by
  have h : (match ds with
    | d :: ds => (evTg S t (.val d) en).bind fun σ => evTgs S ts ds σ
    | [] => .bad) = .ok en' := h
  cases ds with
  | nil => cases h
  | cons d r =>
    cases q : evTg S t (.val d) en with
    | bad => simp only [q] at h; cases h
    | ex x e => simp only [q] at h; cases h
    | ok z =>
      simp only [q] at h
      exact ⟨d, r, z, rfl, q, h⟩
theorem evTgs_len : ∀ {ts : Tgs} {ds : List D} {en en' : En}, evTgs S ts ds en = .ok en' → ds.length = ts.len
  | .nil, _, _, _, h => by rw [(evTgs_nil h).1]; rfl
  | .cons t ts, _, _, _, h => by
    obtain ⟨d, r, en1, rfl, _, h2⟩ := evTgs_cons h
    exact congrArg Nat.succ (evTgs_len h2)
mutual
theorem pg_tg (C : Cz X n W wh nm S) {own : Option (List Nat)} {sc : Scope} (hl : ∀ x, locB sc x = true → LocOk X x) : ∀ {t : Tg}, chTg nm wh own sc t = true → PG X (astTg nm t) (tTg X.K S.io (fun i => inB own i = true) (evTg S t))
  | .nm p i, h => by
    have h : (decide (i < nm.N.length) && (locB sc (nm.slot i) && inB own i)) = true := h
    rw [Bool.and_eq_true, Bool.and_eq_true] at h
    obtain ⟨h1, h2, h3⟩ := h
    have hN : X.N[i]? = some (nm.slot i) := by
      rw [C.N]
      have hl : i < nm.N.length := of_decide_eq_true h1
      unfold Nm.slot
      rw [List.getElem?_eq_getElem hl, List.getD_eq_getElem?_getD, List.getElem?_eq_getElem hl]
      rfl
    refine PGimp (pg_name C.nd hN (hl _ h2).1 (hl _ h2).2) fun v σ H Q ⟨F, en, d, sl, r, en', e, q⟩ => ?_
    have e : Res.need (!(S.io == some i) && decide (i < en.length)) (.ok (en.set i (.val d))) = .ok en' := e
    cases hb : !(S.io == some i) && decide (i < en.length) with
    | false => rw [hb] at e; cases e
    | true =>
      rw [hb] at e
      cases e
      rw [Bool.and_eq_true] at hb
      have b2 : i < en.length := of_decide_eq_true hb.2
      have b1 : S.io ≠ some i := fun z => by
        have := hb.1
        rw [z] at this
        simp at this
      exact q _ (sl.put b2 r) (.put b2 b1 h3)
  | .tup p k ts, h => by
    have h : chTgs nm wh own sc ts = true := h
    refine PGimp (pg_tup (n := ts.len) C.gd.calm (pgs_tg C hl h) (eachs_len ts) (eachs_star ts)) fun v σ H Q ⟨F, en, d, sl, r, en', e, q⟩ => ?_
    have e : tupTg (evTgs S ts) (.val d) en = .ok en' := e
    unfold tupTg at e
    split at e
    · rename_i ds hd
      cases hd
      obtain ⟨a, xs, rfl, h1, h2⟩ := r.tupleAt
      refine ⟨a, xs, rfl, Sub.seqT sl.sub h1, by rw [h2.length]; exact evTgs_len e, F, en, ds, sl, h2, en', e, q⟩
    · cases e
  | .nmo .., h => by cases h
  | .sub .., h => by cases h
theorem pgs_tg (C : Cz X n W wh nm S) {own : Option (List Nat)} {sc : Scope} (hl : ∀ x, locB sc x = true → LocOk X x) : ∀ {ts : Tgs}, chTgs nm wh own sc ts = true → PGs X (astTgs nm ts) (tTgs X.K S.io (fun i => inB own i = true) (evTgs S ts))
  | .nil, _ => PGsimp pgs_nil fun vs σ H Q ⟨F, en, ds, sl, r, en', e, q⟩ => by
    obtain ⟨rfl, rfl⟩ := evTgs_nil e
    cases r
    exact ⟨rfl, q _ sl .refl⟩
  | .cons t ts, h => by
    have h : (chTg nm wh own sc t && chTgs nm wh own sc ts) = true := h
    rw [Bool.and_eq_true] at h
    refine PGsimp (pgs_cons (pg_tg C hl h.1) (pgs_tg C hl h.2) (by rw [each_ok]; rfl)) fun vs σ H Q ⟨F, en, ds, sl, r, en', e, q⟩ => ?_
    obtain ⟨d, ds, en1, rfl, q1, e⟩ := evTgs_cons e
    cases r with
    | cons r rr => exact ⟨_, _, rfl, F, en, d, sl, r, en1, q1, fun σ1 sl1 t1 => ⟨F, en1, ds, sl1, rr, en', e, fun σ2 sl2 t2 => q σ2 sl2 (t1.trans t2)⟩⟩
end
end
end Mp

end

section
namespace Mp
open PySem PySem.Spec PyProof.Rows L2

/-! ### the slots of a block -/
theorem wipeE_len (en : En) : ∀ vs : List Nat, (wipeE en vs).length = en.length
  | [] => rfl
  | v :: vs => by unfold wipeE; rw [List.length_set, wipeE_len en vs]
theorem wipeE_out {en : En} {i : Nat} : ∀ {vs : List Nat}, i ∉ vs → (wipeE en vs)[i]? = en[i]?
  | [], _ => rfl
  | v :: vs, h => by
    rw [List.mem_cons, not_or] at h
    unfold wipeE
    rw [List.getElem?_set_ne (Ne.symm h.1)]
    exact wipeE_out h.2
theorem wipeE_in {en : En} {i : Nat} : ∀ {vs : List Nat}, i ∈ vs → i < en.length → (wipeE en vs)[i]? = some .un
  | v :: vs, h, hl => by
    unfold wipeE
    by_cases e : v = i
    · subst e
      exact List.getElem?_set_self (by rw [wipeE_len]; exact hl)
    · rw [List.getElem?_set_ne e]
      rcases List.mem_cons.mp h with z | z
      · exact absurd z.symm e
      · exact wipeE_in z hl
theorem wipeE_get {en : En} {i : Nat} {vs : List Nat} {x : Sv} (h : (wipeE en vs)[i]? = some x) : x = .un ∨ (i ∉ vs ∧ en[i]? = some x) := by
  by_cases hi : i ∈ vs
  · have hl : i < en.length := by
      have := (List.getElem?_eq_some_iff.mp h).1
      rwa [wipeE_len] at this
    rw [wipeE_in hi hl] at h
    cases h
    exact .inl rfl
  · rw [wipeE_out hi] at h
    exact .inr ⟨hi, h⟩
theorem wipe_in {σ : L2.St} {i : Nat} : ∀ {vs : List Nat}, i ∈ vs → i < σ.length → (wipe σ vs)[i]? = some none
  | v :: vs, h, hl => by
    unfold wipe
    by_cases e : v = i
    · subst e
      exact List.getElem?_set_self (by rw [wipe_length]; exact hl)
    · rw [List.getElem?_set_ne e]
      rcases List.mem_cons.mp h with z | z
      · exact absurd z.symm e
      · exact wipe_in z hl
theorem wipe_ext {σ σ' : L2.St} {vs : List Nat} (hl : σ'.length = σ.length) (h : ∀ j, j ∉ vs → σ'[j]? = σ[j]?) : wipe σ' vs = wipe σ vs := by
  apply List.ext_getElem?
  intro j
  by_cases hj : j ∈ vs
  · by_cases hlt : j < σ.length
    · rw [wipe_in hj hlt, wipe_in hj (by rw [hl]; exact hlt)]
    · rw [List.getElem?_eq_none (by rw [wipe_length]; omega), List.getElem?_eq_none (by rw [wipe_length]; omega)]
  · rw [wipe_out hj, wipe_out hj, h j hj]
theorem wipeE_ext {σ σ' : En} {vs : List Nat} (hl : σ'.length = σ.length) (h : ∀ j, j ∉ vs → σ'[j]? = σ[j]?) : wipeE σ' vs = wipeE σ vs := by
  apply List.ext_getElem?
  intro j
  by_cases hj : j ∈ vs
  · by_cases hlt : j < σ.length
    · rw [wipeE_in hj hlt, wipeE_in hj (by rw [hl]; exact hlt)]
    · rw [List.getElem?_eq_none (by rw [wipeE_len]; omega), List.getElem?_eq_none (by rw [wipeE_len]; omega)]
  · rw [wipeE_out hj, wipeE_out hj, h j hj]
theorem backE_len (e0 en : En) : ∀ vs : List Nat, (backE e0 en vs).length = en.length
  | [] => rfl
  | v :: vs => by
    unfold backE
    split
    · rw [List.length_set, backE_len e0 en vs]
    · exact backE_len e0 en vs
theorem backE_out {e0 en : En} {i : Nat} : ∀ {vs : List Nat}, i ∉ vs → (backE e0 en vs)[i]? = en[i]?
  | [], _ => rfl
  | v :: vs, h => by
    rw [List.mem_cons, not_or] at h
    unfold backE
    split
    · rw [List.getElem?_set_ne (Ne.symm h.1)]
      exact backE_out h.2
    · exact backE_out h.2
theorem backE_in {e0 en : En} {i : Nat} : ∀ {vs : List Nat}, i ∈ vs → e0.length = en.length → (backE e0 en vs)[i]? = e0[i]?
  | v :: vs, h, hl => by
    unfold backE
    by_cases e : v = i
    · subst e
      split
      · rename_i x q
        rw [List.getElem?_set_self (by rw [backE_len, ← hl]; exact (List.getElem?_eq_some_iff.mp q).1), q]
      · rename_i q
        rw [q]
        have : en.length ≤ v := by
          rw [← hl]
          exact List.getElem?_eq_none_iff.mp q
        exact List.getElem?_eq_none (by rw [backE_len]; exact this)
    · have hm : i ∈ vs := by
        rcases List.mem_cons.mp h with z | z
        · exact absurd z.symm e
        · exact z
      split
      · rw [List.getElem?_set_ne e]
        exact backE_in hm hl
      · exact backE_in hm hl
section
variable {K : PySem.W.Frag} {io : Option Nat} {σ : L2.St} {F H F1 H1 : Hp} {en en1 : En} {vs : List Nat}
theorem Sl.wipe (sl : Sl K F H en σ) : Sl K F H (wipeE en vs) (L2.wipe σ vs) where
  len := by rw [wipeE_len, wipe_length]; exact sl.len
  sub := sl.sub
  val := fun i d h => by
    rcases wipeE_get h with z | ⟨hn, z⟩
    · cases z
    · rw [wipe_out hn]
      exact sl.val i d z
  own := fun i d h => by
    rcases wipeE_get h with z | ⟨hn, z⟩
    · cases z
    · rw [wipe_out hn]
      exact sl.own i d z
  ap := fun i j ds es a h1 h2 => by
    rcases wipeE_get h1 with z | ⟨hn, z⟩
    · cases z
    · rcases wipeE_get h2 with z' | ⟨hn', z'⟩
      · cases z'
      · rw [wipe_out hn, wipe_out hn']
        exact sl.ap i j ds es a z z'
theorem own_wiped {a : Addr} (h : OwnAt (wipe σ vs) (wipeE en vs) a) : OwnAt σ en a := by
  obtain ⟨i, ds, h1, h2⟩ := h
  rcases wipeE_get h1 with z | ⟨hn, z⟩
  · cases z
  · rw [wipe_out hn] at h2
    exact ⟨i, ds, z, h2⟩
theorem own_kept {a : Addr} (hn : ∀ i ∈ vs, ∀ ds, en[i]? ≠ some (.own ds)) (h : OwnAt σ en a) : OwnAt (wipe σ vs) (wipeE en vs) a := by
  obtain ⟨i, ds, h1, h2⟩ := h
  have hi : i ∉ vs := fun z => hn i z ds h1
  exact ⟨i, ds, by rw [wipeE_out hi]; exact h1, by rw [wipe_out hi]; exact h2⟩
theorem Stp.wipe (st : Stp K io σ F H en F1 H1 en1) (hn : ∀ i ∈ vs, ∀ ds, en[i]? ≠ some (.own ds)) : Stp K io (L2.wipe σ vs) F H (wipeE en vs) F1 H1 (wipeE en1 vs) where
  sl := st.sl.wipe
  mono := st.mono
  new := fun a h => (st.new a h).imp_right fun h => h.imp_right fun h => own_kept hn h
  keep := fun a o h h' => st.keep a o h fun z => h' (own_kept hn z)
  own' := fun i ds h => by
    rcases wipeE_get h with z | ⟨hi, z⟩
    · cases z
    · obtain ⟨es, q⟩ := st.own' i ds z
      exact ⟨es, by rw [wipeE_out hi]; exact q⟩
  io' := fun p hp ⟨ds, h⟩ => by
    rcases wipeE_get h with z | ⟨hi, z⟩
    · cases z
    · obtain ⟨es, q⟩ := st.io' p hp ⟨ds, z⟩
      exact ⟨es, by rw [wipeE_out hi]; exact q⟩
/-- out of a block -/
theorem Stp.unwipe (sl : Sl K F H en σ) (st : Stp K io (L2.wipe σ vs) F H (wipeE en vs) F1 H1 (wipeE en1 vs)) : Stp K io σ F H en F1 H1 (backE en en1 vs) := by
  have hl : en.length = en1.length := by
    have h := st.sl.len
    rw [wipeE_len, wipe_length] at h
    rw [h, sl.len]
  have old : ∀ i ∈ vs, ∀ (ds : List D) (a : Addr), en[i]? = some (.own ds) → σ[i]? = some (some (.ref a)) → ¬ OwnAt (L2.wipe σ vs) (wipeE en vs) a := fun i hi ds a h1 h2 ⟨j, es, h3, h4⟩ => by
    rcases wipeE_get h3 with z | ⟨hj, z⟩
    · cases z
    · rw [wipe_out hj] at h4
      have e := sl.ap i j ds es a h1 z h2 h4
      subst e
      exact hj hi
  have own1 : ∀ (i : Nat) (ds : List D), (backE en en1 vs)[i]? = some (.own ds) → ∃ es : List D, en[i]? = some (.own es) := fun i ds h => by
    by_cases hi : i ∈ vs
    · rw [backE_in hi hl] at h
      exact ⟨ds, h⟩
    · rw [backE_out hi] at h
      obtain ⟨es, q⟩ := st.own' i ds (by rw [wipeE_out hi]; exact h)
      rw [wipeE_out hi] at q
      exact ⟨es, q⟩
  refine ⟨⟨by rw [backE_len, ← hl]; exact sl.len, st.sl.sub, fun i d h => ?_, fun i ds h => ?_, fun i j ds es a h1 h2 h3 h4 => ?_⟩, st.mono, fun a h => (st.new a h).imp_right fun h => h.imp_right own_wiped, fun a o h hn => st.keep a o h fun z => hn (own_wiped z), own1, fun p hp ⟨ds, h⟩ => ?_⟩
  · by_cases hi : i ∈ vs
    · rw [backE_in hi hl] at h
      obtain ⟨v, h1, h2⟩ := sl.val i d h
      exact ⟨v, h1, h2.mono st.mono⟩
    · rw [backE_out hi] at h
      have q := st.sl.val i d (by rw [wipeE_out hi]; exact h)
      rw [wipe_out hi] at q
      exact q
  · by_cases hi : i ∈ vs
    · rw [backE_in hi hl] at h
      obtain ⟨a, xs, h1, h2, h3, h4⟩ := sl.own i ds h
      have no := old i hi ds a h h1
      refine ⟨a, xs, h1, st.keep a _ h2 no, ?_, h4.mono st.mono⟩
      cases q : F1 a with
      | none => rfl
      | some o =>
        rcases st.new a (by rw [q]; exact (fun z => nomatch z)) with y | y | y
        · exact absurd h3 y
        · rw [h2] at y; cases y
        · exact absurd y no
    · rw [backE_out hi] at h
      have q := st.sl.own i ds (by rw [wipeE_out hi]; exact h)
      rw [wipe_out hi] at q
      exact q
  · obtain ⟨ds', g1⟩ := own1 i ds h1
    obtain ⟨es', g2⟩ := own1 j es h2
    exact sl.ap i j ds' es' a g1 g2 h3 h4
  · by_cases hi : p ∈ vs
    · exact ⟨ds, by rw [backE_in hi hl]; exact h⟩
    · obtain ⟨es, q⟩ := st.io' p hp ⟨ds, by rw [wipeE_out hi]; exact h⟩
      rw [wipeE_out hi] at q
      exact ⟨es, by rw [backE_out hi]; exact q⟩
/-- an object of ours that no slot holds is changed -/
theorem Stp.tracked {F0 H0 : Hp} {en0 : En} (z : Stp K io σ F0 H0 en0 F H en) {p : Addr} {o : HO} (hf : F p = none) (hn : ¬ OwnAt σ en p) (h0 : H0 p = none ∨ OwnAt σ en0 p) : Stp K io σ F0 H0 en0 F (upd H p o) en where
  sl := {
    len := z.sl.len
    sub := fun a u h => by
      rw [upd_ne (fun e => by subst e; rw [hf] at h; cases h)]
      exact z.sl.sub a u h
    val := z.sl.val
    own := fun i ds h => by
      obtain ⟨a, xs, h1, h2, h3, h4⟩ := z.sl.own i ds h
      have ne : a ≠ p := fun e => hn ⟨i, ds, h, by rw [← e]; exact h1⟩
      exact ⟨a, xs, h1, by rw [upd_ne ne]; exact h2, h3, h4⟩
    ap := z.sl.ap }
  mono := z.mono
  new := z.new
  keep := fun a u h h' => by
    have ne : a ≠ p := fun e => by
      subst e
      rcases h0 with y | y
      · rw [h] at y; cases y
      · exact h' y
    rw [upd_ne ne]
    exact z.keep a u h h'
  own' := z.own'
  io' := z.io'
end
theorem noEx_ok {α : Type} {r : R α} {a : α} (h : noEx r = .ok a) : r = .ok a := by
  cases r with
  | ok b => exact h
  | ex x e => cases h
  | bad => cases h
theorem Res.bind_inv {ε α β : Type} {r : Res ε α} {k : α → Res ε β} {b : β} (h : r.bind k = .ok b) : ∃ a, r = .ok a ∧ k a = .ok b := by
  cases r with
  | ok a => exact ⟨a, rfl, h⟩
  | ex x e => cases h
  | bad => cases h
theorem compD_noEx {b : D → En → R (Option D × En)} {s : Src} (hb : ∀ d σ x e, b d σ ≠ .ex x e) : ∀ (l acc : List D) (σ : En) (x : Exc) (e : En), compD b s l acc σ ≠ .ex x e
  | [], acc, σ, x, e, h => by
    unfold compD at h
    split at h <;> cases h
  | d :: l, acc, σ, x, e, h => by
    unfold compD at h
    split at h
    · cases q : b d σ with
      | bad => rw [q] at h; cases h
      | ex x' e' => exact hb d σ x' e' q
      | ok z =>
        rw [q] at h
        simp only [Res.bind] at h
        split at h
        · exact compD_noEx hb l _ _ x e h
        · exact compD_noEx hb l _ _ x e h
    · cases h
theorem noEx_not {α : Type} {r : R α} {x : Exc} {e : En} : noEx r ≠ .ex x e := by
  cases r <;> exact fun h => nomatch h
theorem compD_nil {b : D → En → R (Option D × En)} {s : Src} {acc acc' : List D} {σ σ' : En} (h : compD b s [] acc σ = .ok (acc', σ')) : lockOk s σ ∧ acc' = acc ∧ σ' = σ := by
  unfold compD at h
  split at h
  · cases h
    exact ⟨by assumption, rfl, rfl⟩
  · cases h
theorem compD_cons {b : D → En → R (Option D × En)} {s : Src} {d : D} {l acc : List D} {σ : En} {z : List D × En} (h : compD b s (d :: l) acc σ = .ok z) : lockOk s σ ∧ ∃ o σ1, b d σ = .ok (o, σ1) ∧ (match o with
    | none => compD b s l acc σ1
    | some e => compD b s l (acc ++ [e]) σ1) = .ok z := by
  unfold compD at h
  split at h
  · obtain ⟨⟨o, σ1⟩, h1, h2⟩ := Res.bind_inv h
    exact ⟨by assumption, o, σ1, h1, h2⟩
  · cases h
theorem compD_lock {b : D → En → R (Option D × En)} {s : Src} {l acc : List D} {σ : En} {z : List D × En} (h : compD b s l acc σ = .ok z) : lockOk s σ := by
  cases l with
  | nil => exact (compD_nil h).1
  | cons d l => exact (compD_cons h).1
end Mp

end

section
namespace Mp
open PySem PySem.Spec PyProof.Rows L2

section
variable {X : Cx} {n : Nat} {W : WX} {wh : Wh} {nm : Nm} {S : Sc}
abbrev W0 : WX := fun _ _ _ _ => False
theorem pk_lock {ev : En → R (Av × En)} {i k : Nat} {ds : List D} {σ σ' : En} (h : seqIt ⟨noV, noV, ev, noV, noV⟩ σ = .ok ((ds, some i), σ')) : ∃ z, ev σ = .ok (.pk i, z) := by
  obtain ⟨⟨av, z⟩, h1, h2⟩ := Res.bind_inv h
  have h1 : ev σ = .ok (av, z) := h1
  refine ⟨z, ?_⟩
  rw [h1]
  cases av with
  | dat d => cases d <;> cases h2
  | pk j =>
    simp only at h2
    split at h2
    · cases h2
      rfl
    · cases h2
  | own es => cases h2
theorem seq_lock {ev : Ev} {i : Nat} {ds : List D} {σ σ' : En} (h : seqIt ev σ = .ok ((ds, some i), σ')) : ∃ z, ev.a σ = .ok (.pk i, z) := by
  obtain ⟨⟨av, z⟩, h1, h2⟩ := Res.bind_inv h
  refine ⟨z, ?_⟩
  rw [h1]
  cases av with
  | dat d => cases d <;> cases h2
  | pk j =>
    simp only at h2
    split at h2
    · cases h2
      rfl
    · cases h2
  | own es => cases h2
theorem ofT_lock {v : En → R (Rv × En)} {t : En → R (Bool × En)} {i : Nat} {σ z : En} (h : (Ev.ofT v t).a σ = .ok (.pk i, z)) : False := by
  obtain ⟨⟨r, z'⟩, h1, h2⟩ := Res.bind_inv h
  cases h2
theorem e_lock : ∀ {e : E} {i : Nat} {σ z : En}, (evE S e).a σ = .ok (.pk i, z) → ∃ p, e = .pk p i
  | .pk p k, i, σ, z, h => by
    have h : pkAt k σ = .ok (.pk i, z) := h
    unfold pkAt at h
    split at h
    · cases h
      exact ⟨p, rfl⟩
    · cases h
  | .tmp e, i, σ, z, h => by
    have h : (((evE S e).v σ).bind fun q => match q.1 with
      | .own ds => (.ok (.own ds, q.2) : R (Av × En))
      | _ => .bad) = .ok (.pk i, z) := h
    obtain ⟨⟨r, z'⟩, h1, h2⟩ := Res.bind_inv h
    cases r <;> cases h2
  | .no, i, σ, z, h => by
    have h : (.bad : R (Av × En)) = .ok (.pk i, z) := h
    cases h
  | .var .., i, σ, z, h | .frz .., i, σ, z, h | .mv .., i, σ, z, h | .int .., i, σ, z, h | .bl .., i, σ, z, h | .non .., i, σ, z, h | .str .., i, σ, z, h | .glob .., i, σ, z, h | .tup .., i, σ, z, h | .lst .., i, σ, z, h | .bin .., i, σ, z, h | .cmp .., i, σ, z, h | .cmp2 .., i, σ, z, h | .neg .., i, σ, z, h | .not .., i, σ, z, h | .and .., i, σ, z, h | .or .., i, σ, z, h | .ite .., i, σ, z, h | .ix .., i, σ, z, h | .sl .., i, σ, z, h | .bi .., i, σ, z, h | .isi .., i, σ, z, h | .call .., i, σ, z, h | .ext .., i, σ, z, h | .callk .., i, σ, z, h | .comp .., i, σ, z, h => by
    simp only [evE, Ev.of, lit] at h
    exact (ofT_lock h).elim
theorem it_lock {it : It} {i : Nat} {ds : List D} {σ σ' : En} {vs : List Nat} (h : evIt S it σ = .ok ((ds, some i), σ')) (hl : lkB vs it = true) : i ∉ vs := by
  cases it with
  | seq e =>
    obtain ⟨z, h⟩ := seq_lock h
    obtain ⟨p, rfl⟩ := e_lock h
    have hl : (!(vs.contains i)) = true := hl
    simpa using hl
  | rng1 p pn a =>
    obtain ⟨⟨d, z⟩, h1, h2⟩ := Res.bind_inv h
    simp only at h2
    split at h2
    · rename_i j
      cases q : small62 j <;> rw [q] at h2 <;> cases h2
    · cases h2
  | rng2 p pn a b =>
    obtain ⟨⟨d, z⟩, h1, h2⟩ := Res.bind_inv h
    obtain ⟨⟨d', z'⟩, h3, h4⟩ := Res.bind_inv h2
    simp only at h4
    split at h4
    · rename_i j k
      cases q : small62 j && small62 k <;> rw [q] at h4 <;> cases h4
    · cases h4
  | zip p pn a b =>
    obtain ⟨⟨d, z⟩, h1, h2⟩ := Res.bind_inv h
    obtain ⟨⟨d', z'⟩, h3, h4⟩ := Res.bind_inv h2
    simp only at h4
    split at h4 <;> cases h4
  | enum p pn a =>
    obtain ⟨⟨d, z⟩, h1, h2⟩ := Res.bind_inv h
    simp only at h2
    split at h2 <;> cases h2
theorem comp_read {vs : List Nat} {elt cnd : E} {tg : Tg} {it : It} (hlk : lkB vs it = true) : ∀ σ H Q, tV X.K S.io W (compV vs (evE S elt) (evE S cnd) (evTg S tg) (evIt S it)) σ H Q →
    tLc (tI X.K S.io W (evIt S it)) (tTg X.K S.io (fun i => inB (some vs) i = true) (evTg S tg)) (tT X.K S.io W0 (evE S cnd).c) (tD X.K S.io W0 (evE S elt).d) vs σ H Q := fun σ H Q ⟨F, en, sl, h⟩ => by
  refine ⟨F, en, sl, ?_⟩
  unfold compV at h
  cases qi : evIt S it en with
  | bad => rw [qi] at h; exact h.elim
  | ex x e => rw [qi] at h; exact h
  | ok z =>
    obtain ⟨src, en1⟩ := z
    rw [qi] at h
    intro F1 H1 st J oa hoa wk Da hD
    have h : Wpx X.K S.io W σ F H en (Res.need (okLen src.1.length) _) _ := h
    obtain ⟨hz, h⟩ := h.need
    obtain ⟨turn, hturn⟩ : ∃ t, t = turnD vs (evE S elt) (evE S cnd) (evTg S tg) := ⟨_, rfl⟩
    rw [← hturn] at h
    have hne : ∀ d σ x e, turn d σ ≠ .ex x e := fun d σ x e => by
      rw [hturn]
      exact noEx_not
    cases qc : compD turn src src.1 [] en1 with
    | bad => rw [qc] at h; exact h.elim
    | ex x e => exact absurd qc (compD_noEx hne _ _ _ _ _)
    | ok zc =>
      obtain ⟨acc, en2⟩ := zc
      rw [qc] at h
      have h : Wpx X.K S.io W σ F H en (Res.ok (Rv.own acc, backE en1 en2 vs)) _ := h
      have lkAt : ∀ {F2 H2 : Hp} {en' : En} {l a : List D} {z : List D × En}, compD turn src l a en' = .ok z → Sl X.K F2 H2 (wipeE en' vs) (wipe σ vs) → LkAt X.K F2 H2 oa src.1 := fun {F2 H2 en' l a z} hc sl2 b hb => by
        obtain ⟨i, hi, hs⟩ := hoa b hb
        have hn : i ∉ vs := it_lock (ds := src.1) (by rw [qi, ← hi]) hlk
        have lk := compD_lock hc
        unfold lockOk at lk
        rw [hi] at lk
        obtain ⟨b', xs, g1, g2, _, g4⟩ := sl2.own i src.1 (by rw [wipeE_out hn]; exact lk)
        rw [wipe_out hn, hs] at g1
        cases g1
        exact ⟨xs, g2, g4⟩
      refine lc_it wk (fun i H2 => ∃ (F2 : Hp) (en' : En) (a : List D), compD turn src (src.1.drop i) a en' = .ok (acc, en2) ∧ Stp X.K S.io (wipe σ vs) F1 H1 (wipeE en1 vs) F2 H2 (wipeE en' vs) ∧ RvOk X.K (wipe σ vs) H1 (wipeE en1 vs) F2 H2 (wipeE en' vs) (.ref Da) (.own a) ∧ a.length ≤ i) ?_ ?_ ?_ ?_
      · have hF : F1 Da = none := by
          cases q : F1 Da with
          | none => rfl
          | some o => rw [st.sl.sub Da o q] at hD; cases hD
        exact ⟨F1, en1, [], qc, Stp.laid st.sl.wipe hD, ⟨Da, [], rfl, upd_same, hF, .nil, notOwn_of (st.sl.wipe (vs := vs)) hD, .inl hD⟩, Nat.le_refl _⟩
      · rintro i H2 hi ⟨F2, en', a, hc, st2, rv2, hl⟩
        exact ⟨F2, st2.mono, st2.sl.sub, lkAt hc st2.sl⟩
      · rintro i x H2 H3 hi ⟨F2, en', a, hc, st2, rv2, hl⟩ y
        obtain ⟨d, hd, yo⟩ := y F2 st2.mono st2.sl.sub (lkAt hc st2.sl)
        obtain ⟨hlt, hd⟩ := List.getElem?_eq_some_iff.mp hd
        rw [List.drop_eq_getElem_cons hlt, hd] at hc
        obtain ⟨_, o, σ1, ht, hc⟩ := compD_cons hc
        rw [hturn] at ht
        have ht := noEx_ok ht
        obtain ⟨en3, h1, h2⟩ := Res.bind_inv ht
        obtain ⟨⟨b, en4⟩, h3, h4⟩ := Res.bind_inv h2
        obtain ⟨F3, st3, rx⟩ := yld_step (io := S.io) st2.sl yo
        refine ⟨F3, wipeE en' vs, d, st3.sl, rx, en3, h1, fun σ2 sl2 tk => ?_⟩
        have inP : ∀ j, inB (some vs) j = true → j ∈ vs := fun j hj => by
          have hj : vs.contains j = true := hj
          simpa using hj
        have e1 : wipe σ2 vs = wipe σ vs := wipe_ext (by rw [tk.len, wipe_length]) fun j hj => by
          rcases tk.at' j with ⟨_, q⟩ | ⟨_, _, q⟩
          · rw [q, wipe_out hj]
          · exact absurd (inP j q) hj
        have e2 : wipeE en3 vs = wipeE en' vs := wipeE_ext (by rw [sl2.len, tk.len, ← st3.sl.len, wipeE_len]) fun j hj => by
          rcases tk.at' j with ⟨q, _⟩ | ⟨_, _, q⟩
          · rw [q, wipeE_out hj]
          · exact absurd (inP j q) hj
        have hn : ∀ i ∈ vs, ∀ ds, en3[i]? ≠ some (.own ds) := fun j hj ds q => by
          rcases tk.at' j with ⟨z, _⟩ | ⟨⟨d', z⟩, _⟩
          · rw [z] at q
            rcases wipeE_get q with w | ⟨w, _⟩
            · cases w
            · exact w hj
          · rw [z] at q
            cases q
        refine ⟨e1, F3, en3, sl2, ?_⟩
        rw [h3]
        intro F4 H4 st4
        have st4w := st4.wipe hn
        rw [e1, e2] at st4w
        have tot4 := (st2.trans st3).trans st4w
        have rv4 := (rv2.later st3).later st4w
        cases b with
        | false =>
          cases h4
          exact iteF ⟨F4, en4, a, hc, tot4, rv4, Nat.le_succ_of_le hl⟩
        | true =>
          obtain ⟨⟨y', en5⟩, h5, h6⟩ := Res.bind_inv h4
          cases h6
          refine iteT ⟨F4, en4, st4.sl, ?_⟩
          rw [h5]
          intro F5 H5 st5 v hv
          have hn4 : ∀ i ∈ vs, ∀ ds, en4[i]? ≠ some (.own ds) := fun j hj ds q => by
            obtain ⟨es, q⟩ := st4.own' j ds q
            exact hn j hj es q
          have st5w := st5.wipe hn4
          rw [e1] at st5w
          have tot5 := tot4.trans st5w
          obtain ⟨a', xs, e, g1, g2, g3, g4, g5⟩ := rv4.later st5w
          cases e
          have hz := okLen_le hz
          have hxl := g3.length
          have hi : i < src.1.length := hi
          exact ⟨xs, g1, by omega, F5, en5, a ++ [y'], hc, tot5.tracked g2 g4 g5, ⟨_, xs ++ [v], rfl, upd_same, g2, g3.append (.cons hv .nil), g4, g5⟩, by rw [List.length_append]; exact Nat.succ_le_succ hl⟩
      · rintro H2 ⟨F2, en', a, hc, st2, rv2, hl⟩
        rw [List.drop_length] at hc
        obtain ⟨_, rfl, rfl⟩ := compD_nil hc
        have stT := Stp.unwipe st.sl st2
        obtain ⟨a', xs, e, g1, g2, g3, g4, g5⟩ := rv2
        cases e
        have hlen : en1.length = en2.length := by
          have q := stT.sl.len
          rw [backE_len] at q
          rw [q, st.sl.len]
        refine h.done F2 H2 (st.trans stT) (.ref Da) ⟨Da, xs, rfl, g1, g2, g3, fun ⟨j, es, q1, q2⟩ => ?_, h0_of st hD⟩
        by_cases hj : j ∈ vs
        · rw [backE_in hj hlen] at q1
          obtain ⟨b, ys, w1, w2, _⟩ := st.sl.own j es q1
          rw [q2] at w1
          cases w1
          rw [hD] at w2
          cases w2
        · rw [backE_out hj] at q1
          exact g4 ⟨j, es, by rw [wipeE_out hj]; exact q1, by rw [wipe_out hj]; exact q2⟩

/-! ### a comprehension's block -/
theorem loc_blk {s : Shared} {H : Hp} {sc' : Scope} {Ca : Addr} {cl : List (Str × Addr)} {fp : List Addr} {x : Str} (h : locB sc' x = true) : LocOk (X.blk s H sc' (compEnvC sc' cl Ca X.env) fp) x := by
  unfold locB at h
  rw [Bool.and_eq_true] at h
  have h2 := h.2
  split at h2
  · rename_i q
    have k := lookup_relS_keep (sc := X.env.scope) (names := sc'.names) (x := x) (k := .local) (by decide) q
    exact ⟨.inl k, .inr k⟩
  · rename_i q
    have k := lookup_relS_keep (sc := X.env.scope) (names := sc'.names) (x := x) (k := .cell) (by decide) q
    refine ⟨.inr k, .inl ?_⟩
    show (sc'.names.lookup x == some .cell) = true
    rw [q]
    rfl
  · cases h2
theorem Cz.blk (C : Cz X n W wh nm S) (s : Shared) (H : Hp) (sc' : Scope) (Ca : Addr) (cl : List (Str × Addr)) (fp : List Addr) : Cz (X.blk s H sc' (compEnvC sc' cl Ca X.env) fp) n W0 wh nm S :=
  ⟨⟨C.gd.calm, C.gd.room, C.gd.grd⟩, C.tx, C.N, C.nd, fun _ _ ⟨_, _, _, _, _, _, _, _, _, _, _, _, _, _, _, _, w⟩ => w.elim⟩
theorem pe_compD (C : Cz X n W wh nm S) {p : Pos} {own : List (Str × Nat)} {sc' : Scope} {elt cnd : E} {tg : Tg} {it : It} (hc : chE nm wh X.env.scope (.comp p own sc' elt tg it cnd) = true)
    (hit : SndIt X W nm S it) (hcn : ∀ X', Cz X' n W0 wh nm S → chE nm wh X'.env.scope cnd = true → Snd X' W0 nm S cnd) (hel : ∀ X', Cz X' n W0 wh nm S → chE nm wh X'.env.scope elt = true → Snd X' W0 nm S elt) :
    PE X (astE nm (.comp p own sc' elt tg it cnd)) (tV X.K S.io W (compV (own.map (·.2)) (evE S elt) (evE S cnd) (evTg S tg) (evIt S it))) := by
  have hc : (blkC nm.N X.env.scope sc' own && (chIt nm wh X.env.scope it && (chTg nm wh (some (own.map (·.2))) sc' tg && (itTg it tg && (lkB (own.map (·.2)) it && (chE nm wh (relS sc' X.env.scope) cnd && chE nm wh (relS sc' X.env.scope) elt)))))) = true := hc
  simp only [Bool.and_eq_true] at hc
  obtain ⟨h1, h2, h3, h4, h5, h6, h7⟩ := hc
  rw [← C.N] at h1
  exact PEimp (pe_lc C.gd.calm C.nd (pi_it C h2 h4 hit) (blkOk_by h1) (fun s H Ca cl fp => pg_tg (C.blk s H sc' Ca cl fp) (fun x hx => loc_blk hx) h3) (fun s H Ca cl fp => (hcn _ (C.blk s H sc' Ca cl fp) h6).c) (fun s H Ca cl fp => pe_dat (hel _ (C.blk s H sc' Ca cl fp) h7).v) fun _ => noSetIt it)
    (comp_read h5)
end
end Mp

end

section
namespace Mp
open PySem PySem.Spec PyProof.Rows L2

section
variable {X : Cx} {n : Nat} {W : WX} {wh : Wh} {nm : Nm} {S : Sc}
theorem permD_len {α : Type} {l : List α} : ∀ {pm : List Nat} {r : List α}, permD l pm = some r → r.length = pm.length
  | [], _, h => by cases h; rfl
  | k :: pm, r, h => by
    unfold permD at h
    cases q : l[k]? with
    | none => rw [q] at h; cases h
    | some a =>
      rw [q] at h
      have h : (permD l pm).map (a :: ·) = some r := h
      cases q2 : permD l pm with
      | none => rw [q2] at h; cases h
      | some r' =>
        rw [q2] at h
        cases h
        exact congrArg Nat.succ (permD_len q2)
theorem callk_read {f : Nat} {as vs : Es} {perm : List Nat} (hp : perm.length = wh.np f) : ∀ σ H Q,
    tV X.K S.io W (fun σ => (avsOf (evEs S as) σ).bind fun q => (avsOf (evEs S vs) q.2).bind fun z => (Res.get (permD (q.1 ++ z.1) perm)).bind fun l => callD S f l z.2) σ H Q →
    tCallKG as.len vs.len (spD X.K (S.sio f) (wh.np f) (S.Φ f)) (permV perm) W (tAs X.K S.io W (avsOf (evEs S as))) (tAs X.K S.io W (avsOf (evEs S vs))) σ H Q := fun σ H Q ⟨F, en, sl, h⟩ => by
  refine ⟨F, en, sl, ?_⟩
  have h : Wpx X.K S.io W σ F H en ((avsOf (evEs S as) en).bind fun q => (avsOf (evEs S vs) q.2).bind fun z => (Res.get (permD (q.1 ++ z.1) perm)).bind fun l => callD S f l z.2) _ := h
  cases q : avsOf (evEs S as) en with
  | bad => rw [q] at h; exact h.elim
  | ex x e => rw [q] at h; exact h
  | ok z =>
    obtain ⟨avs, en1⟩ := z
    rw [q] at h
    intro F1 H1 st1 us hus
    have st1 : Stp X.K S.io σ F H en F1 H1 en1 := st1
    have h : Wpx X.K S.io W σ F H en ((avsOf (evEs S vs) en1).bind fun z => (Res.get (permD (avs ++ z.1) perm)).bind fun l => callD S f l z.2) _ := h
    refine ⟨F1, en1, st1.sl, ?_⟩
    cases q2 : avsOf (evEs S vs) en1 with
    | bad => rw [q2] at h; exact h.elim
    | ex x e => rw [q2] at h; exact fun F' H' cls dd s z => h F' H' cls dd (st1.trans s) z
    | ok z =>
      obtain ⟨bvs, en2⟩ := z
      rw [q2] at h
      intro F2 H2 st2 ws hws
      have st2 : Stp X.K S.io σ F1 H1 en1 F2 H2 en2 := st2
      have h : Wpx X.K S.io W σ F H en ((Res.get (permD (avs ++ bvs) perm)).bind fun l => callD S f l en2) _ := h
      obtain ⟨l, hl, h⟩ := h.get
      have hall : AvsOk X.K σ H en F2 H2 en2 (us ++ ws) (avs ++ bvs) := (hus.later st2).append (hws.from st1)
      obtain ⟨rs, h1, h2⟩ := hall.perm hl
      refine ⟨by rw [hus.length, avsOf_len q, evEs_len], by rw [hws.length, avsOf_len q2, evEs_len], ?_⟩
      rw [permV_of h1]
      exact call_sp (st1.trans st2) h h2 (by rw [permD_len h1, hp])
theorem pe_callkD (C : Cz X n W wh nm S) {p pn : Pos} {f : Nat} {as vs : Es} {ks : List (Str × Pos)} {perm : List Nat} (hf : f < wh.nf) (hg : glB X.env.scope (nm.fn f) = true) (hl : ks.length = vs.len) (hk : (f, as.len, ks.map (·.1), perm) ∈ wh.kb) (hp : perm.length = wh.np f) (h : SndEach X W nm S as) (hv : SndEach X W nm S vs) :
    PE X (.Call (.Name (nm.fn f) pn) (astEs nm as) (astKs nm ks vs) p) (tV X.K S.io W fun σ => (avsOf (evEs S as) σ).bind fun q => (avsOf (evEs S vs) q.2).bind fun z => (Res.get (permD (q.1 ++ z.1) perm)).bind fun l => callD S f l z.2) := by
  obtain ⟨g1, g2⟩ := gl_of hg
  obtain ⟨fa, fd, ps, hps, FG, hm, hki, hb, hkb⟩ := C.tx.fns f hf
  obtain ⟨_, kb⟩ := hkb _ hk rfl
  obtain ⟨k1, k2, k3⟩ := kw_keys (nm := nm) (ks := ks) (vs := vs) (pos := p) (env := X.env) hl
  have hm' : (ks.map (·.1)).length = vs.len := by rw [List.length_map]; exact hl
  cases as with
  | nil =>
    refine PEimp (pe_callKG0 (ks := ks.map (·.1)) FG C.gd.room C.gd.grd g1 hm hki kb C.tk (pk_all hl hv) k1 k2 g2 (by rw [k3]; rfl)) fun σ H Q q => ?_
    have r := callk_read hp σ H Q q
    obtain ⟨F, en, sl, r⟩ := r
    have r := r F H (Stp.refl sl) [] trivial
    rw [← hm'] at r
    exact r
  | cons e es =>
    refine PEimp (pe_callKG (ks := ks.map (·.1)) FG C.gd.room C.gd.grd g1 hm hki kb C.tk h.all.as (pk_all hl hv) k1 k2 g2 (star_ok e) (by rw [k3, Bool.or_false]; exact stars_ok (.cons e es))) fun σ H Q q => ?_
    rw [hm']
    exact callk_read hp σ H Q q

/-! ### every term is sound -/
theorem len_ne {es : Es} (h : decide (2 ≤ es.len) = true) : es.len ≠ 0 := by
  have := of_decide_eq_true h
  omega
theorem snd_lit {e : E} {v : V} {d : D} (he : evE S e = lit d) (hx : optX e (astE nm e) = some (astE nm e)) (hc : cndX e (astE nm e) = [astE nm e]) (hp : plainT e = true) (h : PE X (astE nm e) (tC v)) (r : ∀ F, Rp X.K F v d) : Snd X W nm S e :=
  snd_of he hx hc hp (pe_lit h r)
/-- an item's truth, as an argument -/
theorem pt_pk (C : Cz X n W wh nm S) {i : Nat} {p : Pos} (h : slotB nm X.env.scope i = true) : PT X (.Name (nm.slot i) p) (tT X.K S.io W (evE S (.pk p i)).t) :=
  PTimp (pt_truth (pe_pk (W := W) C h) (plainT_ok (nm := nm) (.pk p i) rfl)) fun σ H Q ⟨F, en, sl, h⟩ => ⟨F, en, sl, by
    have h : Wpx X.K S.io W σ F H en ((pkAt i en).bind fun q => (Res.get (q.1.see q.2)).bind fun d => truR (d, q.2)) _ := h
    exact h.seq (Stp.refl sl) fun av F1 H1 en1 st h v hv => by
      obtain ⟨d, ed, h⟩ := h.get
      obtain ⟨b, eb, h⟩ := h.get
      exact ⟨b, tru_see st.sl.sub (hv.see st.sl ed) eb, h.done F1 H1 st⟩⟩
theorem pe_noV {e : Expr} {tE : TE} (h : PE X e tE) {α : Type} : PE X e (tV X.K S.io W noV) ∧ PE X e (tA X.K S.io W noV) ∧ PO X (some e) (tO X.K S.io W noV) ∧ PTs X [e] (tT X.K S.io W noV) :=
  ⟨PEimp h fun σ H Q ⟨F, en, sl, h⟩ => h.elim, PEimp h fun σ H Q ⟨F, en, sl, h⟩ => h.elim, ⟨fun pins s σ H Q I ⟨F, en, sl, h⟩ => h.elim⟩, ⟨fun pins s σ H Q I ⟨F, en, sl, h⟩ => h.elim⟩⟩
end
end Mp

end

section
namespace HT
open PySem PySem.Spec PyProof.Rows
section
variable {prog : Program} {w : World} {A : Around} {E : Value → Shared → Prop} {s : Shared}
theorem rev_places (n : Nat) : Builtin.Slice.slicePlaces ((n : Int) - 1) (-1) (-1) = n := by
  unfold Builtin.Slice.slicePlaces
  have h1 : ¬ ((-1 : Int) > 0) := by omega
  simp only [h1, if_false]
  by_cases h : n = 0
  · subst h; decide
  · have h2 : ((n : Int) - 1) > -1 := by omega
    simp only [h2, if_true]
    have e : ((n : Int) - 1 - (-1) - 1) / (- (-1)) = (n : Int) - 1 := by
      rw [show (- (-1) : Int) = 1 by decide, Int.ediv_one]
      omega
    rw [e]
    omega
theorem sliceApplied_rev {sl : Addr} {vs : Value} {n : Nat} {Q : Int × Int × Nat → Shared → Prop} (hs : s.heap.IsSliceOf sl .none .none vs) (ps : IsPart vs (some (-1)))
    (h : Q ((n : Int) - 1, -1, n) s) : wpAny (model prog w) A (Builtin.Slice.sliceApplied (.ref sl) (pure (n : Int))) Q E s := by
  obtain ⟨os, hos, hcs, hds⟩ := id hs
  unfold Builtin.Slice.sliceApplied Builtin.Slice.sliceFields
  refine wpAny_bind (wpAny_bind (wpAny_field hos hds (x := .none) rfl (wpAny_bind (wpAny_field hos hds (x := .none) rfl (wpAny_bind (wpAny_field hos hds (x := vs) rfl (wpAny_pure ?_)))))))
  refine wpAny_bind (slicePart_ ps ?_)
  show wpAny _ _ (if ((-1 : Int) == 0) = true then _ else _) _ _ s
  rw [if_neg (by decide)]
  refine wpAny_bind (slicePart_none (wpAny_bind (slicePart_none (wpAny_bind (wpAny_pure ?_)))))
  show wpAny _ _ (match Builtin.Slice.sliceAdjust none none (-1) (n : Int) with | (lo, hi) => pure (lo, (-1 : Int), Builtin.Slice.slicePlaces lo hi (-1))) _ _ s
  have e : Builtin.Slice.sliceAdjust none none (-1) (n : Int) = ((n : Int) - 1, -1) := rfl
  rw [e]
  show wpAny _ _ (pure ((n : Int) - 1, (-1 : Int), Builtin.Slice.slicePlaces ((n : Int) - 1) (-1) (-1))) _ _ s
  rw [rev_places]
  exact wpAny_pure h
theorem pick_rev (xs : Array Value) : ((List.range xs.size).filterMap fun (k : Nat) => xs[(((xs.size : Int) - 1) + (k : Int) * (-1)).toNat]?).toArray = xs.toList.reverse.toArray := by
  have e : (fun (k : Nat) => xs[(((xs.size : Int) - 1) + (k : Int) * (-1)).toNat]?) = (fun m => xs[m]?) ∘ fun k : Nat => ((((xs.size : Int) - 1) + (k : Int) * (-1)).toNat) := rfl
  rw [e, ← List.filterMap_map]
  have e2 : (List.range xs.size).map (fun k : Nat => ((((xs.size : Int) - 1) + (k : Int) * (-1)).toNat)) = (List.range xs.size).map fun k => xs.size - 1 - k := by
    apply List.map_congr_left
    intro k hk
    have := List.mem_range.mp hk
    omega
  rw [e2, PySem.W.krv_range, List.filterMap_reverse, PySem.W.krv_all]
theorem getItem_tuple_rev {t sl : Addr} {items : Array Value} {vs : Value} {Q : Value → Shared → Prop} (ht : IsTup s.heap t items) (hs : s.heap.IsSliceOf sl .none .none vs) (ps : IsPart vs (some (-1)))
    (h : Q (.ref s.heap.objs.size) { s with heap := s.heap.push { cls := .type "tuple", data := .seq items.toList.reverse.toArray } })
    (hsz : items.size ≤ sizeLine) : wpAny (model prog w) A (getItem (.ref t) (.ref sl)) Q E s := by
  have htake : sizeOk (.seq items.toList.reverse.toArray) := by
    show items.toList.reverse.toArray.size ≤ sizeLine
    rw [List.size_toArray, List.length_reverse, Array.length_toList]
    exact hsz
  obtain ⟨os, hos, hcs, hds⟩ := id hs
  have hTs : s.TypeIs (.ref sl) "slice" := ⟨os, hos, hcs⟩
  unfold getItem
  try with_reducible refine wpAny_holding ?_
  first | refine wpAny_bind (wpAny_pure ?_) | skip
  refine wpAny_bind (wpAny_sequenceKey ht.typeIs (by decide) ?_)
  refine wpAny_bind (wpAny_callSpecial?_slot (name := Str.ofString "__getitem__") ht.typeIs PyProof.Rows.slot_tuple_getitem
    (wpAny_call_entry PyProof.Rows.slot_tuple_getitem ht.typeIs entry_tuple_getitem ?_ (args_tuple_getitem _ _)))
  show wpAny _ _ (Builtin.Tuple.tupleItemsOf (.ref t) >>= _) _ _ s
  refine wpAny_bind (tupleItemsOf_ ht ?_)
  refine wpAny_bind (wpAny_typeOf hTs ?_)
  rw [if_pos (by decide)]
  refine wpAny_bind (sliceApplied_rev hs ps ?_)
  have hno : ¬ ((((items.size : Int) - 1) == 0 && (-1 : Int) == 1 && items.size == items.size) = true) := by simp
  show wpAny _ _ (if (((items.size : Int) - 1) == 0 && (-1 : Int) == 1 && items.size == items.size) = true then _ else _) _ _ s
  rw [if_neg hno, pick_rev]
  first
    | exact wpAny_bind (m := Builtin.Tuple.tupleExact _) (wpAny_newObj_type (wpAny_pure ⟨_, rfl, wpAny_pure h⟩) htake)
    | exact wpAny_bind (m := Builtin.Tuple.tupleExact _) (wpAny_newObj_type (wpAny_bind (wpAny_pure (wpAny_pure ⟨_, rfl, wpAny_pure h⟩))) htake)
    | exact wpAny_bind (wpAny_bind (m := Builtin.Tuple.tupleExact _) (wpAny_newObj_type (wpAny_pure (wpAny_pure ⟨_, rfl, wpAny_pure h⟩)) htake))
    | exact wpAny_bind (wpAny_bind (m := Builtin.Tuple.tupleExact _) (wpAny_newObj_type (wpAny_pure ⟨_, rfl, wpAny_pure h⟩) htake))
end
end HT
namespace L2
open PySem PySem.Spec PyProof.Rows
section
variable {X : Cx}
/-- xs[::-1] of a list, of a tuple -/
def tRev (K : PySem.W.Frag) (te : TE) : TE := fun σ H Q => te σ H fun x H1 => (∃ a xs, x = .ref a ∧ SqL K H1 a xs ∧ ∀ p, H1 p = none → Q (.ref p) (upd H1 p (.lst xs.reverse))) ∨ (∃ a xs, x = .ref a ∧ SqT K H1 a xs ∧ ∀ p, H1 p = none → Q (.ref p) (upd H1 p (.tup xs.reverse)))
theorem pe_rev {e : Expr} {te : TE} {k : Nat} {p1 p2 p3 pos : Pos} (he : PE X e te) : PE X (.Subscript e (.Slice none none (some (.UnaryOp .USub (.Constant (.int 1) k p1) p2)) p3) pos) (tRev X.K te) := by
  refine ⟨fun pins s σ H Q I h => ?_⟩
  refine Subscript_ (thn (he.run pins s σ H _ I h) fun v s1 ⟨x, H1, I1, r1, q1⟩ => ?_)
  have hst : PO X (some (.UnaryOp .USub (.Constant (.int 1) k p1) p2)) (tPart (tUn (rU fun i => .int (-i)) (tC (.int 1)))) := po_some (pe_un un_neg pe_int)
  refine wpAny_Slice (thn (po_none.run pins s1 σ H1 (fun o H2 => o = none ∧ H2 = H1) I1 ⟨rfl, rfl⟩) fun vl s2 ⟨l, H2, I2, pl, el, e2⟩ => ?_)
  subst el e2
  refine thn (po_none.run pins s2 σ H2 (fun o H3 => o = none ∧ H3 = H2) I2 ⟨rfl, rfl⟩) fun vu s3 ⟨u, H3, I3, pu, eu, e3⟩ => ?_
  subst eu e3
  refine thn (hst.run pins s3 σ H3 (fun o H4 => o = some (-1) ∧ H4 = H3) I3 ⟨1, rfl, -1, rfl, rfl, rfl⟩) fun vs s4 ⟨o, H4, I4, ps, eo, e4⟩ => ?_
  subst eo e4
  have I5 : Inv X pins σ H4 { s4 with heap := s4.heap.push { cls := .type "slice", data := .fields #[vl, vu, vs] } } := I4.kept (t' := s4.toks) fun b ob q => Heap.get?_push_of_some _ q
  rcases q1 with ⟨a, xs, ex, hx, q⟩ | ⟨a, xs, ex, hx, q⟩
  · subst ex
    cases r1
    obtain ⟨its, r, ht, hz⟩ := I5.list hx
    have hlen := r.length
    show wpAny (model X.prog X.w) X.A (subscriptTail e (.Slice none none (some (.UnaryOp .USub (.Constant (.int 1) k p1) p2)) p3) (.ref a) (.ref s4.heap.objs.size)) (EP X pins σ Q) X.xe { s4 with heap := s4.heap.push { cls := .type "slice", data := .fields #[vl, vu, vs] } }
    refine tail_any (ops := [.ref a, .ref s4.heap.objs.size]) ht.isList.typeIs (PySem.slot_list_getitem.lookup) ?_ (by with_unfolding_all rfl)
    refine wpAny_getItem_list_slice ht.isList (Heap.IsSliceOf.new _ vl vu vs) pl pu ps (by decide) ?_ (by rw [List.size_toArray]; omega)
    rw [PySem.W.krv_pick]
    refine ⟨.ref _, _, I5.laid (t' := s4.toks) (o := .lst xs.reverse) (fun b ob q => Heap.get?_push_of_some _ q) (Nat.le_refl _) ?_, rfl, q _ (I5.hok.fresh (Nat.le_refl _))⟩
    exact ⟨by rw [List.length_reverse]; exact hz, _, 0, r.reverse, Heap.get?_push_size _ rfl⟩
  · subst ex
    cases r1
    obtain ⟨its, r, ht, hz⟩ := I5.tuple hx
    have hlen := r.length
    cases pl
    cases pu
    show wpAny (model X.prog X.w) X.A (subscriptTail e (.Slice none none (some (.UnaryOp .USub (.Constant (.int 1) k p1) p2)) p3) (.ref a) (.ref s4.heap.objs.size)) (EP X pins σ Q) X.xe { s4 with heap := s4.heap.push { cls := .type "slice", data := .fields #[.none, .none, vs] } }
    refine tail_any (ops := [.ref a, .ref s4.heap.objs.size]) ht.typeIs (PyProof.Rows.slot_tuple_getitem.lookup) ?_ (by with_unfolding_all rfl)
    refine HT.getItem_tuple_rev ht (Heap.IsSliceOf.new _ _ _ vs) ps ?_ (by rw [List.size_toArray]; omega)
    refine ⟨.ref _, _, I5.laid (t' := s4.toks) (o := .tup xs.reverse) (fun b ob q => Heap.get?_push_of_some _ q) (Nat.le_refl _) ?_, rfl, q _ (I5.hok.fresh (Nat.le_refl _))⟩
    exact ⟨by rw [List.length_reverse]; exact hz, _, r.reverse, IsTup.new _ _⟩
end
end L2

end

section
set_option maxHeartbeats 1000000
namespace RZ
open PySem
open PySem.Sem (wp)
abbrev IsZipG (h : Heap) (z TI TO : Addr) (f0 f1 : Value) : Prop :=
  h.get? z = some { cls := .type "zip", dict := none, data := .fields #[f0, f1, .bool false, .ref TI, .ref TO], slots := #[] }
section
variable {prog : Program} {w : World} {A : Around} {E : Value → Shared → Prop} {s : Shared}
theorem wpAny_alive {M : Model} {a : Addr} {Q : Option Obj → Shared → Prop} (h : Q (s.heap.get? a) s) : wpAny M A (loadIfAlive a) Q E s := fun Γ p hΓ => by
  show Q (s.heap.get? a) s
  exact h
theorem held_not {z TI TO a : Addr} {b : Bool} {o : Obj} {Q : Bool → Shared → Prop} (hz : IsZipG s.heap z TI TO (rawInt a) (.bool b)) (ha : s.heap.get? a = some o)
    (hQ : ∀ h', IsZipG h' z TI TO (rawInt a) (.bool true) → Heap.ExtBut z s.heap h' → h'.objs.size = s.heap.objs.size → Q false { s with heap := h' }) :
    wpAny (model prog w) A (Builtin.SmallTypes.ownedTupleIsFree (.ref z)) Q E s := by
  unfold Builtin.SmallTypes.ownedTupleIsFree
  refine wpAny_bind (wpAny_field hz rfl (x := rawInt a) rfl ?_)
  show wpAny _ _ (loadIfAlive ((a : Int).toNat) >>= _) _ _ _
  refine wpAny_bind (wpAny_alive ?_)
  rw [Int.toNat_natCast, ha]
  simp only [Option.isNone_some, Bool.false_eq_true, if_false]
  show wpAny _ _ (field (.ref z) 1 >>= _) _ _ _
  refine wpAny_bind (wpAny_field hz rfl (x := .bool b) rfl ?_)
  cases b with
  | true =>
    have e : ((Value.bool true != Value.bool true) = true) = False := by simp
    simp only [e, if_false]
    exact wpAny_pure (hQ _ hz (fun _ _ _ h => h) rfl)
  | false =>
    have e : ((Value.bool false != Value.bool true) = true) = True := by simp
    simp only [e, if_true]
    refine wpAny_bind (wpAny_setField_rec hz (by simp) fun h₁ hz₁ hs₁ => ?_)
    exact wpAny_pure (hQ h₁ hz₁ hs₁.extBut hs₁.1)
theorem zipH_next_item {z TI TO i1 i2 l1 l2 c : Addr} {b : Bool} {oc : Obj} {k1 k2 : Nat} {xs ys : Array Value} {x y : Value} {Q : Value → Shared → Prop} (D : ZipApart z TI TO i1 i2 l1 l2)
    (hz : IsZipG s.heap z TI TO (rawInt c) (.bool b)) (hc : s.heap.get? c = some oc) (hTI : IsPair s.heap TI (.ref i1) (.ref i2))
    (h1 : s.heap.IsTupleIter i1 l1 k1) (h2 : s.heap.IsTupleIter i2 l2 k2) (hl1 : s.heap.IsTuple l1 xs) (hl2 : s.heap.IsTuple l2 ys) (hx : xs[k1]? = some x) (hy : ys[k2]? = some y)
    (hQ : ∀ h', IsZipG h' z TI TO (rawInt c) (.bool true) → h'.IsTupleIter i1 l1 (k1 + 1) → h'.IsTupleIter i2 l2 (k2 + 1) → IsPair h' s.heap.objs.size x y → h'.objs.size = s.heap.objs.size + 1 →
      (∀ c o, c ≠ z → c ≠ i1 → c ≠ i2 → s.heap.get? c = some o → h'.get? c = some o) → Q (.ref s.heap.objs.size) { s with heap := h' }) :
    wpAny (model prog w) A (Builtin.«zip.__next__» ⟨[.ref z], []⟩) (fun fin s' => ∃ v, fin = .done (.ret v) ∧ Q v s') E s := by
  show wpAny _ _ (field (.ref z) 2 >>= _) _ _ _
  refine wpAny_bind (wpAny_field hz rfl (x := .bool false) rfl ?_)
  show wpAny _ _ (field (.ref z) 3 >>= _) _ _ _
  refine wpAny_bind (wpAny_field hz rfl (x := .ref TI) rfl ?_)
  refine wpAny_bind (wpAny_seqItems hTI rfl ?_)
  show wpAny _ _ (Builtin.SmallTypes.ownedTupleIsFree (.ref z) >>= _) _ _ _
  refine wpAny_bind (held_not hz hc fun h₁ hz₁ hs₁ hsz₁ => ?_)
  simp only [Bool.false_eq_true, if_false]
  refine wpAny_bind ?_
  first
  | rw [List.forIn_toArray]
  | (rw [← Array.forIn_toList]; simp only [List.toList_toArray])
  | rw [← Array.forIn_toList]
  simp only [List.forIn_cons, List.forIn_nil]
  refine wpAny_bind (wpAny_bind (wpAny_holding ?_))
  show wpAny _ _ (Builtin.SmallTypes.nextOf (.ref i1) >>= _) _ _ _
  refine wpAny_bind (nextOf_tuple_item (h1.extBut hs₁ D.i1z) (hl1.extBut hs₁ D.l1z) hx fun h₂ h1₂ hs₂ => wpAny_pure ?_)
  refine wpAny_pure ?_
  refine wpAny_bind (wpAny_bind (wpAny_holding ?_))
  show wpAny _ _ (Builtin.SmallTypes.nextOf (.ref i2) >>= _) _ _ _
  refine wpAny_bind (nextOf_tuple_item ((h2.extBut hs₁ D.i2z).extBut hs₂.extBut D.i12.symm) ((hl2.extBut hs₁ D.l2z).extBut hs₂.extBut D.l2i1) hy fun h₃ h2₃ hs₃ => wpAny_pure ?_)
  refine wpAny_pure (wpAny_pure ?_)
  have hsz : h₃.objs.size = s.heap.objs.size := by rw [hs₃.1, hs₂.1, hsz₁]
  refine wpAny_bind (wpAny_newTuple (hsz := by rw [sizeLine_eq]; simp) ?_)
  refine wpAny_pure ⟨_, rfl, ?_⟩
  show Q (.ref h₃.objs.size) _
  rw [hsz]
  refine hQ _ ?_ ?_ ?_ ?_ ?_ ?_
  · exact Heap.get?_push_of_some _ (hs₃.extBut _ _ D.i2z.symm (hs₂.extBut _ _ D.i1z.symm hz₁))
  · exact (h1₂.extBut hs₃.extBut D.i12).at fun o e => Heap.get?_push_of_some _ e
  · exact h2₃.at fun o e => Heap.get?_push_of_some _ e
  · rw [← hsz]
    exact Heap.get?_push_size _ rfl
  · rw [Heap.size_push, hsz]
  · exact fun c o c1 c2 c3 e => Heap.get?_push_of_some _ (hs₃.extBut _ _ c3 (hs₂.extBut _ _ c2 (hs₁ _ _ c1 e)))
theorem zipH_next_end {z TI TO i1 i2 l1 l2 c : Addr} {b : Bool} {oc : Obj} {k1 k2 : Nat} {xs ys : Array Value} {Q : Fin → Shared → Prop} (hh : A.handled = none) (D : ZipApart z TI TO i1 i2 l1 l2)
    (hz : IsZipG s.heap z TI TO (rawInt c) (.bool b)) (hc : s.heap.get? c = some oc) (hTI : IsPair s.heap TI (.ref i1) (.ref i2))
    (h1 : s.heap.IsTupleIter i1 l1 k1) (h2 : s.heap.IsTupleIter i2 l2 k2) (hl1 : s.heap.IsTuple l1 xs) (hl2 : s.heap.IsTuple l2 ys) (hend : xs[k1]? = none ∨ ys[k2]? = none)
    (hE : ∀ h' e, (∀ c o, c ≠ z → c ≠ i1 → c ≠ i2 → s.heap.get? c = some o → h'.get? c = some o) → (∃ o, h'.get? e = some o ∧ o.cls = .type "StopIteration") → E (.ref e) { s with heap := h' }) :
    wpAny (model prog w) A (Builtin.«zip.__next__» ⟨[.ref z], []⟩) Q E s := by
  show wpAny _ _ (field (.ref z) 2 >>= _) _ _ _
  refine wpAny_bind (wpAny_field hz rfl (x := .bool false) rfl ?_)
  show wpAny _ _ (field (.ref z) 3 >>= _) _ _ _
  refine wpAny_bind (wpAny_field hz rfl (x := .ref TI) rfl ?_)
  refine wpAny_bind (wpAny_seqItems hTI rfl ?_)
  show wpAny _ _ (Builtin.SmallTypes.ownedTupleIsFree (.ref z) >>= _) _ _ _
  refine wpAny_bind (held_not hz hc fun h₁ hz₁ hs₁ hsz₁ => ?_)
  simp only [Bool.false_eq_true, if_false]
  refine wpAny_bind ?_
  first
  | rw [List.forIn_toArray]
  | (rw [← Array.forIn_toList]; simp only [List.toList_toArray])
  | rw [← Array.forIn_toList]
  simp only [List.forIn_cons, List.forIn_nil]
  refine wpAny_bind (wpAny_bind (wpAny_holding ?_))
  show wpAny _ _ (Builtin.SmallTypes.nextOf (.ref i1) >>= _) _ _ _
  cases hx : xs[k1]? with
  | none =>
    exact wpAny_bind (nextOf_tuple_end hh (h1.extBut hs₁ D.i1z) (hl1.extBut hs₁ D.l1z) hx fun h₂ e hs₂ he => hE h₂ e (fun c o c1 c2 c3 x => hs₂ _ _ c2 (hs₁ _ _ c1 x)) he)
  | some x =>
    have hy : ys[k2]? = none := by rcases hend with h | h; rw [hx] at h; cases h; exact h
    refine wpAny_bind (nextOf_tuple_item (h1.extBut hs₁ D.i1z) (hl1.extBut hs₁ D.l1z) hx fun h₂ h1₂ hs₂ => wpAny_pure ?_)
    refine wpAny_pure ?_
    refine wpAny_bind (wpAny_bind (wpAny_holding ?_))
    show wpAny _ _ (Builtin.SmallTypes.nextOf (.ref i2) >>= _) _ _ _
    exact wpAny_bind (nextOf_tuple_end hh ((h2.extBut hs₁ D.i2z).extBut hs₂.extBut D.i12.symm) ((hl2.extBut hs₁ D.l2z).extBut hs₂.extBut D.l2i1) hy fun h₃ e hs₃ he => hE h₃ e (fun c o c1 c2 c3 x => hs₃ _ _ c3 (hs₂.extBut _ _ c2 (hs₁ _ _ c1 x))) he)
/-- a zip of two tuples, k pairs drawn: the last one drawn stands -/
structure ZipK (h : Heap) (z TI TO i1 i2 l1 l2 : Addr) (xs ys : Array Value) (k : Nat) : Prop where
  D : ZipApart z TI TO i1 i2 l1 l2
  f : (k = 0 ∧ IsZip h z TI TO .none ∧ ∃ a b, IsPair h TO a b) ∨ (k ≠ 0 ∧ ∃ (c : Addr) (b : Bool) (oc : Obj), IsZipG h z TI TO (rawInt c) (.bool b) ∧ h.get? c = some oc ∧ c ≠ i1 ∧ c ≠ i2 ∧ c ≠ z)
  hTI : IsPair h TI (.ref i1) (.ref i2)
  h1 : h.IsTupleIter i1 l1 k
  h2 : h.IsTupleIter i2 l2 k
  hl1 : h.IsTuple l1 xs
  hl2 : h.IsTuple l2 ys
theorem ZipK.ty {h : Heap} {z TI TO i1 i2 l1 l2 : Addr} {xs ys : Array Value} {k : Nat} (Z : ZipK h z TI TO i1 i2 l1 l2 xs ys k) : ∃ o, h.get? z = some o ∧ o.cls = .type "zip" := by
  rcases Z.f with ⟨_, h, _⟩ | ⟨_, c, b, oc, h, _⟩
  · exact ⟨_, h, rfl⟩
  · exact ⟨_, h, rfl⟩
/-- what the zip's own things are -/
def zown (z TI TO i1 i2 : Addr) : List Addr := [z, TI, TO, i1, i2]
theorem zipK_next {z TI TO i1 i2 l1 l2 : Addr} {xs ys : Array Value} {x y : Value} {k : Nat} {Q : Option Value → Shared → Prop} (Z : ZipK s.heap z TI TO i1 i2 l1 l2 xs ys k) (hx : xs[k]? = some x) (hy : ys[k]? = some y)
    (hQ : ∀ h', ZipK h' z TI TO i1 i2 l1 l2 xs ys (k + 1) → IsPair h' s.heap.objs.size x y → h'.objs.size = s.heap.objs.size + 1 → (∀ c o, c ≠ z → c ≠ TO → c ≠ i1 → c ≠ i2 → s.heap.get? c = some o → h'.get? c = some o) → Q (some (.ref s.heap.objs.size)) { s with heap := h' }) :
    wpAny (model prog w) A (pyNext (.ref z)) Q E s := by
  obtain ⟨oz, hoz, hcz⟩ := Z.ty
  have zlt := Heap.lt_size hoz
  have ilt1 : i1 < s.heap.objs.size := by obtain ⟨_, e, _⟩ := Z.h1; exact Heap.lt_size e
  have ilt2 : i2 < s.heap.objs.size := by obtain ⟨_, e, _⟩ := Z.h2; exact Heap.lt_size e
  have D := Z.D
  rcases Z.f with ⟨rfl, hz, a, b, hTO⟩ | ⟨hk, c, b, oc, hz, hc, c1, c2, c3⟩
  · refine pyNext_zipT_item D hz Z.hTI hTO Z.h1 Z.h2 Z.hl1 Z.hl2 hx hy fun h' a1 a2 a3 a4 a5 a6 a7 => hQ h' ⟨D, .inr ⟨by omega, _, false, _, a1, a5, Nat.ne_of_gt ilt1, Nat.ne_of_gt ilt2, Nat.ne_of_gt zlt⟩, a7 _ _ D.TIz D.TITO D.TIi1 D.TIi2 Z.hTI, a3, a4, ?_, ?_⟩ a5 a6 a7
    · obtain ⟨o, ho, r⟩ := Z.hl1
      exact ⟨o, a7 _ _ D.l1z D.l1TO D.l1i1 D.l1i2 ho, r⟩
    · obtain ⟨o, ho, r⟩ := Z.hl2
      exact ⟨o, a7 _ _ D.l2z D.l2TO D.l2i1 D.l2i2 ho, r⟩
  · have hT : s.TypeIs (.ref z) "zip" := ⟨_, hz, rfl⟩
    unfold pyNext
    refine wpAny_bind (wpAny_attempt (wpAny_callSpecial?_slot (name := Str.ofString "__next__") hT F.slot_zip_next
      (wpAny_call_entry F.slot_zip_next hT F.entry_zip_next
        (zipH_next_item D hz hc Z.hTI Z.h1 Z.h2 Z.hl1 Z.hl2 hx hy fun h' a1 a2 a3 a4 a5 a6 => wpAny_pure (hQ h' ⟨D, .inr ⟨by omega, c, true, oc, a1, a6 _ _ c3 c1 c2 hc, c1, c2, c3⟩, a6 _ _ D.TIz D.TIi1 D.TIi2 Z.hTI, a2, a3, ?_, ?_⟩ a4 a5 fun c o d1 _ d3 d4 e => a6 c o d1 d3 d4 e)) (F.args_zip_next_1 _))))
    · obtain ⟨o, ho, r⟩ := Z.hl1
      exact ⟨o, a6 _ _ D.l1z D.l1i1 D.l1i2 ho, r⟩
    · obtain ⟨o, ho, r⟩ := Z.hl2
      exact ⟨o, a6 _ _ D.l2z D.l2i1 D.l2i2 ho, r⟩
theorem zipK_end {z TI TO i1 i2 l1 l2 : Addr} {xs ys : Array Value} {k : Nat} {Q : Option Value → Shared → Prop} (hh : A.handled = none) (Z : ZipK s.heap z TI TO i1 i2 l1 l2 xs ys k) (hend : xs[k]? = none ∨ ys[k]? = none)
    (hQ : ∀ h', (∀ c o, c ≠ z → c ≠ TO → c ≠ i1 → c ≠ i2 → s.heap.get? c = some o → h'.get? c = some o) → Q none { s with heap := h' }) :
    wpAny (model prog w) A (pyNext (.ref z)) Q E s := by
  have D := Z.D
  rcases Z.f with ⟨rfl, hz, a, b, hTO⟩ | ⟨hk, c, b, oc, hz, hc, _, _, _⟩
  · exact pyNext_zipT_end hh D hz Z.hTI hTO Z.h1 Z.h2 Z.hl1 Z.hl2 hend hQ
  · have hT : s.TypeIs (.ref z) "zip" := ⟨_, hz, rfl⟩
    have hh1 : A.in1.handled = none := hh
    unfold pyNext
    refine wpAny_bind (wpAny_attempt (wpAny_callSpecial?_slot (name := Str.ofString "__next__") hT F.slot_zip_next
      (wpAny_call_entry F.slot_zip_next hT F.entry_zip_next (zipH_next_end hh1 D hz hc Z.hTI Z.h1 Z.h2 Z.hl1 Z.hl2 hend fun h' e hk he => ?_) (F.args_zip_next_1 _))))
    obtain ⟨o, ho, hc⟩ := he
    refine wpAny_bind (wpAny_isInstance (T := "StopIteration") (b := true) ⟨o, ho, hc⟩ isSubtype_stop ?_)
    exact wpAny_pure (hQ _ fun c o d1 _ d3 d4 e => hk c o d1 d3 d4 e)
end
end RZ

end

section
set_option maxHeartbeats 1000000
namespace RZ
open PySem PySem.Spec PyProof.Rows
open PySem.Sem (wp)
open L2 (lstObj)
theorem zip_no_len : typeLookup (.type "zip") "__len__" = pure none := by rw [typeLookup_type, builtinLookup_eq_fast]; kernel_rfl
theorem zip_no_hint : typeLookup (.type "zip") "__length_hint__" = pure none := by rw [typeLookup_type, builtinLookup_eq_fast]; kernel_rfl
section
variable {prog : Program} {w : World} {A : Around} {E : Value → Shared → Prop} {s : Shared}
/-- the pairs drawn so far stand at these places -/
structure PairsAt (h : Heap) (base : Nat) (ps : List Addr) (xs ys : Array Value) : Prop where
  nd : ps.Nodup
  lo : ∀ p ∈ ps, base ≤ p
  at_ : ∀ (j : Nat) (p : Addr), ps[j]? = some p → ∃ x y, xs[j]? = some x ∧ ys[j]? = some y ∧ IsPair h p x y
theorem ge_ne {n p q : Nat} (h1 : q < n) (h2 : n ≤ p) : p ≠ q := by omega
theorem zip_drain {S z TI TO i1 i2 l1 l2 : Addr} {xs ys : Array Value} {res : Value} {base : Nat} {R : Result → Shared → Prop} (hh : A.handled = none)
    (hS : S ≠ z ∧ S ≠ TO ∧ S ≠ TI ∧ S ≠ i1 ∧ S ≠ i2 ∧ S ≠ l1 ∧ S ≠ l2) (hn : min xs.size ys.size ≤ 1000000)
    (hb : ∀ b, b < base → b ≠ z ∧ b ≠ TO ∧ b ≠ i1 ∧ b ≠ i2 ∧ b ≠ S) (hzb : z < base + 6 ∧ TO < base + 6 ∧ i1 < base + 6 ∧ i2 < base + 6 ∧ S < base + 6)
    (hend : ∀ (h' : Heap) (ps : List Addr) (c : Nat), PairsAt h' base ps xs ys → ps.length = min xs.size ys.size → (∀ p ∈ ps, base + 6 ≤ p) → h'.get? S = some (lstObj (ps.map Value.ref).toArray c) → (∀ b o, b < base → s.heap.get? b = some o → h'.get? b = some o) → ∀ tk, R (.ok (.ret res)) { s with heap := h', toks := tk }) :
    ∀ (m : Nat) (h : Heap) (tk : Nat) (ps : List Addr), ps.length + m = min xs.size ys.size → base + 6 ≤ h.objs.size → ZipK h z TI TO i1 i2 l1 l2 xs ys ps.length → (∃ c, h.get? S = some (lstObj (ps.map Value.ref).toArray c)) → PairsAt h base ps xs ys → (∀ p ∈ ps, base + 6 ≤ p) →
      (∀ b o, b < base → s.heap.get? b = some o → h.get? b = some o) →
      codeAny (model prog w) A (.builtin "list.extend.loop" ⟨[.ref S, .ref z, res], []⟩) R { s with heap := h, toks := tk }
  | 0, h, tk, ps, hm, hsz, Z, ⟨c, hSo⟩, dr, hp6, hk => by
    refine codeAny_builtin F.entry_extend_loop ?_
    rw [Around.under_plainId F.plain_extend_loop _]
    show wpAny _ A.in1 (pyNext (.ref z) >>= _) _ _ _
    have hout : xs[ps.length]? = none ∨ ys[ps.length]? = none := by
      rcases Nat.le_total xs.size ys.size with q | q
      · exact .inl (Array.getElem?_eq_none (by omega))
      · exact .inr (Array.getElem?_eq_none (by omega))
    refine wpAny_bind (zipK_end (A := A.in1) hh Z hout fun h' hk' => ?_)
    have keepP : ∀ p, base + 6 ≤ p → ∀ o, h.get? p = some o → h'.get? p = some o := fun p hp o e => hk' p o (ge_ne hzb.1 hp) (ge_ne hzb.2.1 hp) (ge_ne hzb.2.2.1 hp) (ge_ne hzb.2.2.2.1 hp) e
    refine wpAny_pure (hend h' ps c ⟨dr.nd, dr.lo, fun j p e => ?_⟩ (by omega) hp6 (hk' _ _ hS.1 hS.2.1 hS.2.2.2.1 hS.2.2.2.2.1 hSo) (fun b o hlt e => ?_) tk)
    · obtain ⟨x, y, e1, e2, e3⟩ := dr.at_ j p e
      exact ⟨x, y, e1, e2, keepP p (hp6 p (List.mem_of_getElem? e)) _ e3⟩
    · have := hb b hlt
      exact hk' b o this.1 this.2.1 this.2.2.1 this.2.2.2.1 (hk b o hlt e)
  | m + 1, h, tk, ps, hm, hsz, Z, ⟨c, hSo⟩, dr, hp6, hk => by
    refine codeAny_builtin F.entry_extend_loop ?_
    rw [Around.under_plainId F.plain_extend_loop _]
    show wpAny _ A.in1 (pyNext (.ref z) >>= _) _ _ _
    have l1' : ps.length < xs.size := by omega
    have l2' : ps.length < ys.size := by omega
    have ex : xs[ps.length]? = some xs[ps.length] := Array.getElem?_eq_getElem l1'
    have ey : ys[ps.length]? = some ys[ps.length] := Array.getElem?_eq_getElem l2'
    refine wpAny_bind (zipK_next (A := A.in1) (s := { s with heap := h, toks := tk }) Z ex ey fun h1 Z1 hpr hs1 hk1 => ?_)
    have hS1 : h1.get? S = some (lstObj (ps.map Value.ref).toArray c) := hk1 _ _ hS.1 hS.2.1 hS.2.2.2.1 hS.2.2.2.2.1 hSo
    have hacc : (ps.map Value.ref).toArray.size ≤ 1000000 := by rw [List.size_toArray, List.length_map]; omega
    have hsl := sizeLine_eq
    show wpAny _ A.in1 (updateSeq S (·.push (.ref h.objs.size)) >>= _) _ _ _
    refine wpAny_bind ?_
    refine wpAny_updateSeq hS1 rfl (wpAny_pure ⟨plainId_quiet F.plain_extend_loop _, ?_⟩) (by omega) (by show ((ps.map Value.ref).toArray.push _).size ≤ sizeLine + 1; rw [Array.size_push]; omega)
    have oth : ∀ b o, b ≠ S → h1.get? b = some o → (h1.update S (Obj.mapSeq (·.push (Value.ref h.objs.size)))).get? b = some o := fun b o hbS e => (Heap.get?_update_other _ _ (Ne.symm hbS)).trans e
    have nS : S ≠ h.objs.size := (ge_ne hzb.2.2.2.2 hsz).symm
    have hSn : ∃ c', (h1.update S (Obj.mapSeq (·.push (Value.ref h.objs.size)))).get? S = some (lstObj ((ps ++ [h.objs.size]).map Value.ref).toArray c') := by
      rw [Heap.get?_update_self _ hS1 rfl]
      rw [List.map_append, List.map_singleton, ← List.push_toArray]
      exact ⟨_, rfl⟩
    have zoth : ∀ {b : Addr} {o : Obj}, b ≠ S → h1.get? b = some o → (h1.update S (Obj.mapSeq (·.push (Value.ref h.objs.size)))).get? b = some o := fun {b o} n e => oth b o n e
    refine zip_drain hh hS hn hb hzb hend m (h1.update S (Obj.mapSeq (·.push (Value.ref h.objs.size)))) tk (ps ++ [h.objs.size]) (by rw [List.length_append]; simp; omega) ?_ ?_ hSn ?_ ?_ ?_
    · rw [Heap.size_update, hs1]
      show base + 6 ≤ h.objs.size + 1
      omega
    · rw [List.length_append, List.length_singleton]
      refine ⟨Z1.D, ?_, zoth hS.2.2.1.symm Z1.hTI, Z1.h1.at fun o e => zoth hS.2.2.2.1.symm e, Z1.h2.at fun o e => zoth hS.2.2.2.2.1.symm e, ?_, ?_⟩
      · rcases Z1.f with ⟨q, _⟩ | ⟨q, cc, b, oc, z1, z2, z3, z4, z5⟩
        · omega
        · refine .inr ⟨q, cc, b, ?_⟩
          by_cases e : cc = S
          · subst e
            obtain ⟨c', hSn⟩ := hSn
            exact ⟨_, zoth hS.1.symm z1, hSn, z3, z4, z5⟩
          · exact ⟨oc, zoth hS.1.symm z1, zoth e z2, z3, z4, z5⟩
      · obtain ⟨o, ho, r⟩ := Z1.hl1
        exact ⟨o, zoth hS.2.2.2.2.2.1.symm ho, r⟩
      · obtain ⟨o, ho, r⟩ := Z1.hl2
        exact ⟨o, zoth hS.2.2.2.2.2.2.symm ho, r⟩
    · have kp : ∀ p, base + 6 ≤ p → p ≠ S → ∀ o, h.get? p = some o → (h1.update S (Obj.mapSeq (·.push (Value.ref h.objs.size)))).get? p = some o := fun p hp n o e => zoth n (hk1 p o (ge_ne hzb.1 hp) (ge_ne hzb.2.1 hp) (ge_ne hzb.2.2.1 hp) (ge_ne hzb.2.2.2.1 hp) e)
      refine ⟨?_, fun p hp => ?_, fun j p e => ?_⟩
      · rw [List.nodup_append]
        refine ⟨dr.nd, by simp, fun a ha b hb' => ?_⟩
        rw [List.mem_singleton.mp hb']
        obtain ⟨j, hj, e⟩ := List.mem_iff_getElem.mp ha
        obtain ⟨x, y, _, _, e3⟩ := dr.at_ j a (by rw [List.getElem?_eq_getElem hj, e])
        exact Nat.ne_of_lt (Heap.lt_size e3)
      · rcases List.mem_append.mp hp with hp | hp
        · exact dr.lo p hp
        · rw [List.mem_singleton.mp hp]; omega
      · by_cases hj : j < ps.length
        · rw [List.getElem?_append_left hj] at e
          obtain ⟨x, y, e1, e2, e3⟩ := dr.at_ j p e
          have := hp6 p (List.mem_of_getElem? e)
          exact ⟨x, y, e1, e2, kp p this (ge_ne hzb.2.2.2.2 this) _ e3⟩
        · rw [List.getElem?_append_right (by omega)] at e
          have hj0 : j - ps.length = 0 := by
            have := (List.getElem?_eq_some_iff.mp e).1
            simp at this
            omega
          rw [hj0] at e
          have e : h.objs.size = p := by simpa using e
          have hj2 : j = ps.length := by omega
          rw [hj2, ← e]
          exact ⟨_, _, ex, ey, zoth nS.symm hpr⟩
    · intro p hp
      rcases List.mem_append.mp hp with hp | hp
      · exact hp6 p hp
      · rw [List.mem_singleton.mp hp]; exact hsz
    · intro b o hlt e
      have := hb b hlt
      exact zoth this.2.2.2.2 (hk1 b o this.1 this.2.1 this.2.2.1 this.2.2.2.1 (hk b o hlt e))
/-- list(zip of two tuples) -/
theorem call_list_zip {l1 l2 : Addr} {xs ys : Array Value} {Q : Value → Shared → Prop} (hh : A.handled = none) (hl1 : s.heap.IsTuple l1 xs) (hl2 : s.heap.IsTuple l2 ys) (hn : min xs.size ys.size ≤ 1000000)
    (hQ : ∀ (h' : Heap) (ps : List Addr) (S : Addr) (c tk : Nat), PairsAt h' s.heap.objs.size ps xs ys → ps.length = min xs.size ys.size → S ∉ ps → s.heap.objs.size ≤ S → h'.get? S = some (lstObj (ps.map Value.ref).toArray c) → (∀ b o, s.heap.get? b = some o → h'.get? b = some o) → Q (.ref S) { s with heap := h', toks := tk }) :
    wpAny (model prog w) A (call (.type "zip") [.ref l1, .ref l2]) (fun u s1 => wpAny (model prog w) A (call (.type "list") [u]) Q E s1) E s := by
  have lt1 : l1 < s.heap.objs.size := let ⟨_, h, _⟩ := hl1; Heap.lt_size h
  have lt2 : l2 < s.heap.objs.size := let ⟨_, h, _⟩ := hl2; Heap.lt_size h
  have D : ZipApart (s.heap.objs.size + 4) (s.heap.objs.size + 2) (s.heap.objs.size + 3) s.heap.objs.size (s.heap.objs.size + 1) l1 l2 := PySem.W.ktu_apart s.heap.objs.size l1 l2 lt1 lt2
  refine call_zipT hl1 hl2 fun h1 hz hTI hTO k1 k2 hs1 hk1 => ?_
  refine callType_codes (Q₁ := fun obj s₁ => obj = .ref h1.objs.size ∧ s₁ = { s with heap := h1.push { cls := .type "list", data := .seq #[] } }) F.called_list (F.typeCall_list_1 _) F.entry_list_init
    (code_list_new _ ⟨rfl, rfl⟩) fun obj s₁ h₁ => ?_
  obtain ⟨rfl, rfl⟩ := h₁
  have hS : (h1.push { cls := .type "list", data := .seq #[] }).get? h1.objs.size = some { cls := .type "list", data := .seq #[] } := Heap.get?_push_size _ rfl
  refine ⟨⟨_, hS, rfl⟩, F.args_list_init_2 _ _, ?_⟩
  show wpAny _ A.in1.in1 (do let old ← Builtin.List.listItems (.ref h1.objs.size); Builtin.List.listUpdate (.ref h1.objs.size) (fun _ => #[]); letGo old.toList.reverse; Builtin.List.listExtendWith (.ref h1.objs.size) (.ref (s.heap.objs.size + 4)) .none) _ _ _
  refine wpAny_bind ?_
  unfold Builtin.List.listItems
  refine wpAny_bind (wpAny_seqItems hS rfl (wpAny_pure ?_))
  show wpAny _ A.in1.in1 (updateSeq h1.objs.size (fun _ => #[]) >>= fun _ => letGo (#[] : Array Value).toList.reverse >>= fun _ => Builtin.List.listExtendWith (.ref h1.objs.size) (.ref (s.heap.objs.size + 4)) .none) _ _ _
  refine wpAny_bind (wpAny_updateSeq hS rfl ?_)
  have hS2 := Heap.get?_update_self (Obj.mapSeq (fun _ => (#[] : Array Value))) hS rfl
  refine wpAny_bind (wpAny_letGo ?_)
  unfold Builtin.List.listExtendWith
  have up : ∀ (h : Heap) (f : Obj → Obj), (∀ b o, h1.get? b = some o → h.get? b = some o) → ∀ b o, h1.get? b = some o → (h.update h1.objs.size f).get? b = some o := fun h f q b o e =>
    (Heap.get?_update_other _ _ (Ne.symm (Nat.ne_of_lt (Heap.lt_size e)))).trans (q b o e)
  have q1 : ∀ b o, h1.get? b = some o → (h1.push { cls := .type "list", data := .seq #[] }).get? b = some o := fun b o e => Heap.get?_push_of_some _ e
  have q2 := up _ (Obj.mapSeq (fun _ => (#[] : Array Value))) q1
  have ty : ∀ {h : Heap} {tk : Nat}, (∀ b o, h1.get? b = some o → h.get? b = some o) → Shared.TypeIs { s with heap := h, toks := tk } (.ref (s.heap.objs.size + 4)) "zip" := fun {h tk} q => ⟨_, q _ _ hz, rfl⟩
  refine wpAny_bind (wpAny_typeOf (ty q2) ?_)
  have nSz : h1.objs.size ≠ s.heap.objs.size + 4 := by omega
  have e1 : Builtin.List.listSameRef (.ref h1.objs.size) (.ref (s.heap.objs.size + 4)) = false := by simp [Builtin.List.listSameRef, nSz]
  have e2 : (Value.type "zip" == Value.type "list") = false := by decide
  have e3 : (Value.type "zip" == Value.type "tuple") = false := by decide
  simp only [e1, e2, e3, Bool.or_false, Bool.false_eq_true, if_false]
  refine wpAny_bind (wpAny_pyIter_zip (s := { s with heap := _ }) (q2 _ _ hz) ?_)
  refine wpAny_bind (wpAny_holding ?_)
  unfold Builtin.List.listLengthHint
  refine wpAny_bind (wpAny_specialOf (ty q2) zip_no_len ?_)
  show wpAny _ A.in1.in1 (specialOf (Value.ref (s.heap.objs.size + 4)) (Str.ofString "__length_hint__") >>= _) _ _ _
  refine wpAny_bind (wpAny_specialOf (ty q2) zip_no_hint ?_)
  refine wpAny_pure ?_
  show wpAny _ A.in1.in1 (rule "list.extend.makes-room" >>= fun _ => Builtin.List.listTouch (.ref h1.objs.size) >>= fun _ =>
    again (.builtin "list.extend.loop" ⟨[.ref h1.objs.size, .ref (s.heap.objs.size + 4), .none], []⟩)) _ _ _
  refine wpAny_bind (wpAny_rule ?_)
  refine wpAny_bind ?_
  show wpAny _ A.in1.in1 (updateSeq h1.objs.size (·.push .none) >>= fun _ => updateSeq h1.objs.size (·.pop)) _ _ _
  refine wpAny_bind (wpAny_updateSeq hS2 rfl ?_)
  have hS3 := Heap.get?_update_self (Obj.mapSeq (·.push Value.none)) hS2 rfl
  refine wpAny_updateSeq (hz := by seq_fits) hS3 rfl ?_
  have hS4 := Heap.get?_update_self (Obj.mapSeq (·.pop)) hS3 rfl
  have q4 := up _ (Obj.mapSeq (·.pop)) (up _ (Obj.mapSeq (·.push Value.none)) q2)
  refine wpAny_pure ⟨plainId_quiet F.plain_extend_loop _, ?_⟩
  have nn : ∀ {a b : Nat}, a < b → a ≠ b := fun h => Nat.ne_of_lt h
  have gg : ∀ {a b : Nat}, b < a → a ≠ b := fun h => Nat.ne_of_gt h
  have hsz1 : h1.objs.size = s.heap.objs.size + 5 := hs1
  have kS : h1.objs.size ≠ s.heap.objs.size + 4 ∧ h1.objs.size ≠ s.heap.objs.size + 3 ∧ h1.objs.size ≠ s.heap.objs.size + 2 ∧ h1.objs.size ≠ s.heap.objs.size ∧ h1.objs.size ≠ s.heap.objs.size + 1 ∧ h1.objs.size ≠ l1 ∧ h1.objs.size ≠ l2 :=
    ⟨gg (by omega), gg (by omega), gg (by omega), gg (by omega), gg (by omega), gg (by rw [hsz1]; exact Nat.lt_of_lt_of_le lt1 (Nat.le_add_right _ _)), gg (by rw [hsz1]; exact Nat.lt_of_lt_of_le lt2 (Nat.le_add_right _ _))⟩
  have kb : ∀ b, b < s.heap.objs.size → b ≠ s.heap.objs.size + 4 ∧ b ≠ s.heap.objs.size + 3 ∧ b ≠ s.heap.objs.size ∧ b ≠ s.heap.objs.size + 1 ∧ b ≠ h1.objs.size := fun b hb =>
    ⟨nn (by omega), nn (by omega), nn (by omega), nn (by omega), nn (by omega)⟩
  have kz : s.heap.objs.size + 4 < s.heap.objs.size + 6 ∧ s.heap.objs.size + 3 < s.heap.objs.size + 6 ∧ s.heap.objs.size < s.heap.objs.size + 6 ∧ s.heap.objs.size + 1 < s.heap.objs.size + 6 ∧ h1.objs.size < s.heap.objs.size + 6 :=
    ⟨by omega, by omega, by omega, by omega, by omega⟩
  refine zip_drain (s := s) (A := A.in1) (base := s.heap.objs.size) (xs := xs) (ys := ys) (S := h1.objs.size) (z := s.heap.objs.size + 4) (TI := s.heap.objs.size + 2) (TO := s.heap.objs.size + 3) (i1 := s.heap.objs.size) (i2 := s.heap.objs.size + 1) (l1 := l1) (l2 := l2) (R := _) hh kS hn kb kz ?_ (min xs.size ys.size) _ s.toks [] (by simp) ?_ ?_ ⟨_, hS4⟩ ⟨.nil, (fun p hp => nomatch hp), fun j p e => by simp at e⟩ (fun p hp => nomatch hp) (fun b o hlt e => q4 _ _ (hk1 _ _ e))
  · intro h' ps c dr hl hp6 hSo hk tk
    exact ⟨rfl, hQ h' ps h1.objs.size c tk dr hl (fun z => by have z2 : s.heap.objs.size + 6 ≤ h1.objs.size := hp6 _ z; rw [hsz1] at z2; exact absurd z2 (by simp)) (by rw [hsz1]; exact Nat.le_add_right _ _) hSo fun b o e => hk b o (Heap.lt_size e) e⟩
  · simp only [Heap.size_update, Heap.size_push]
    omega
  · refine ⟨D, .inl ⟨rfl, q4 _ _ hz, _, _, q4 _ _ hTO⟩, q4 _ _ hTI, k1.at fun o e => q4 _ _ e, k2.at fun o e => q4 _ _ e, ?_, ?_⟩
    · obtain ⟨o, ho, r⟩ := hl1
      exact ⟨o, q4 _ _ (hk1 _ _ ho), r⟩
    · obtain ⟨o, ho, r⟩ := hl2
      exact ⟨o, q4 _ _ (hk1 _ _ ho), r⟩
end
end RZ

end

section
set_option maxHeartbeats 1000000
namespace L2
open PySem PySem.Spec PyProof.Rows
/-- the pairs stand at these places -/
def zipH (H : Hp) : List Addr → List V → List V → Hp
  | p :: ps, x :: xs, y :: ys => upd (zipH H ps xs ys) p (.tup [x, y])
  | _, _, _ => H
theorem zipH_none {H : Hp} : ∀ {ps : List Addr} {xs ys : List V} {a : Addr}, a ∉ ps → zipH H ps xs ys a = H a
  | [], _, _, _, _ => by unfold zipH; rfl
  | _ :: _, [], _, _, _ => by unfold zipH; rfl
  | _ :: _, _ :: _, [], _, _ => by unfold zipH; rfl
  | p :: ps, x :: xs, y :: ys, a, h => by
    rw [List.mem_cons, not_or] at h
    unfold zipH
    rw [upd_ne h.1]
    exact zipH_none h.2
theorem zipH_some {H : Hp} {o : HO} : ∀ {ps : List Addr} {xs ys : List V} {a : Addr}, ps.length ≤ xs.length → ps.length ≤ ys.length → zipH H ps xs ys a = some o → (a ∉ ps ∧ H a = some o) ∨ ∃ (j : Nat) (x y : V), ps[j]? = some a ∧ xs[j]? = some x ∧ ys[j]? = some y ∧ o = .tup [x, y]
  | [], _, _, _, _, _, h => .inl ⟨by simp, by unfold zipH at h; exact h⟩
  | _ :: _, [], _, _, h, _, _ => by simp at h
  | _ :: _, _ :: _, [], _, _, h, _ => by simp at h
  | p :: ps, x :: xs, y :: ys, a, h1, h2, h => by
    unfold zipH at h
    by_cases e : a = p
    · subst e
      rw [upd_same] at h
      cases h
      exact .inr ⟨0, x, y, rfl, rfl, rfl, rfl⟩
    · rw [upd_ne e] at h
      rcases zipH_some (by simpa using h1) (by simpa using h2) h with ⟨z1, z2⟩ | ⟨j, u, v, z1, z2, z3, z4⟩
      · refine .inl ⟨?_, z2⟩
        rw [List.mem_cons, not_or]
        exact ⟨e, z1⟩
      · exact .inr ⟨j + 1, u, v, z1, z2, z3, z4⟩
section
variable {X : Cx} {pins : List (Addr × Obj)} {σ : List (Option V)} {H : Hp} {s : Shared} {h' : Heap}
theorem Inv.zipped {ps : List Addr} {S : Addr} {c tk : Nat} {xs ys : List V} {us ws : List Value} (I : Inv X pins σ H s) (rx : Vals xs us) (ry : Vals ys ws) (z : ps.length ≤ 1000000)
    (dr : RZ.PairsAt h' s.heap.objs.size ps us.toArray ws.toArray) (hl : ps.length = min us.length ws.length) (hn : S ∉ ps) (hS : s.heap.objs.size ≤ S)
    (hSo : h'.get? S = some (lstObj (ps.map Value.ref).toArray c)) (k : ∀ b o, s.heap.get? b = some o → h'.get? b = some o) :
    Inv X pins σ (upd (zipH H ps xs ys) S (.lst (ps.map V.ref))) { s with heap := h', toks := tk } := by
  have l1 : ps.length ≤ xs.length := by have := rx.length; omega
  have l2 : ps.length ≤ ys.length := by have := ry.length; omega
  have fr : ∀ a, s.heap.objs.size ≤ a → H a = none := fun a h => I.hok.fresh h
  have out : ∀ b, ¬ s.heap.objs.size ≤ b → b ∉ ps := fun b h hb => h (dr.lo b hb)
  have outS : ∀ b, ¬ s.heap.objs.size ≤ b → b ≠ S := fun b h e => h (by rw [e]; exact hS)
  have old : ∀ b, ¬ s.heap.objs.size ≤ b → upd (zipH H ps xs ys) S (.lst (ps.map V.ref)) b = H b := fun b h => by
    rw [upd_ne (outS b h)]
    exact zipH_none (out b h)
  have ltn : ∀ b o, s.heap.get? b = some o → ¬ s.heap.objs.size ≤ b := fun b o h => Nat.not_le_of_lt (Heap.lt_size h)
  have ltH : ∀ b o, H b = some o → ¬ s.heap.objs.size ≤ b := fun b o h z => by rw [fr b z] at h; cases h
  refine I.un ⟨fun b o q _ _ _ => k b o q, fun b o q _ _ _ => ⟨o.slots, k b o q⟩, fun b o q n _ => by rw [old b (ltn b o q)]; exact n, fun b o q _ => ⟨o, k b o q⟩,
    fun b xs q => by rw [old b (ltH b _ q)]; exact q, fun b o u q => by rw [old b (ltH b _ q)]; exact q, fun b ps q => ⟨#[], by rw [old b (ltH b _ q), q]; simp⟩⟩ ?_
  intro a o e
  by_cases ha : a = S
  · subst ha
    rw [upd_same] at e
    cases e
    refine ⟨by rw [List.length_map, sizeLine_eq]; omega, ps.map Value.ref, c, vals_refs ps, hSo⟩
  · rw [upd_ne ha] at e
    rcases zipH_some l1 l2 e with ⟨z1, z2⟩ | ⟨j, x, y, z1, z2, z3, z4⟩
    · exact (I.hok a o z2).stay (fun b u _ q => k b u q) (fun b q => by rw [old b (ltH b _ q)]; exact q) fun b xs q => by rw [old b (ltH b _ q)]; exact q
    · subst z4
      obtain ⟨u, v, q1, q2, q3⟩ := dr.at_ j a z1
      obtain ⟨u', e1, r1⟩ := rx.get z2
      obtain ⟨v', e2, r2⟩ := ry.get z3
      rw [List.getElem?_toArray, e1] at q1
      rw [List.getElem?_toArray, e2] at q2
      cases q1
      cases q2
      exact ⟨by rw [sizeLine_eq]; simp, [u, v], .cons r1 (.cons r2 .nil), ⟨_, q3, rfl, 0, rfl⟩⟩
def tLstZip (K : PySem.W.Frag) (ta : TA) : TE := fun σ H Q => ta σ H fun vs H1 => ∃ a b xs ys, vs = [.ref a, .ref b] ∧ SqT K H1 a xs ∧ SqT K H1 b ys ∧ min xs.length ys.length ≤ 1000000 ∧
  ∀ (ps : List Addr) (q : Addr), ps.Nodup → q ∉ ps → ps.length = min xs.length ys.length → (∀ p ∈ ps, H1 p = none) → H1 q = none → Q (.ref q) (upd (zipH H1 ps xs ys) q (.lst (ps.map V.ref)))
theorem pe_listZip {e e2 : Expr} {ta : TA} {p p2 pos pos2 : Pos} (hc : X.calm = true) (hg : Gl X "list") (hm : X.mg "list" = none) (hg2 : Gl X "zip") (hm2 : X.mg "zip" = none) (ha : PA X [e, e2] ta)
    (hs : starEach [e, e2] X.env = (false, eval e X.env) :: starEach [e2] X.env := by rfl) (hpl : (backTo pos2 (starEach [e2] X.env)).any (·.1) = false := by rfl) :
    PE X (.Call (.Name "list" p) [.Call (.Name "zip" p2) [e, e2] [] pos2] [] pos) (tLstZip X.K ta) := by
  refine ⟨fun pins s σ H Q I h => ?_⟩
  have na : starEach [.Call (.Name "zip" p2) [e, e2] [] pos2] X.env = (false, eval (.Call (.Name "zip" p2) [e, e2] [] pos2) X.env) :: starEach [] X.env := by rfl
  refine Call_ (ld_blt I hg hm boot_list (PyProof.Rows.callWith_type1 (args_cons ?_ na) na))
  refine Call_ (ld_blt I hg2 hm2 PyProof.Rows.boot_zip (PyProof.Rows.callWith_type1 (thn (ha.run pos2 pins s σ H _ I h) fun us s1 ⟨vs, H1, I1, r1, q1⟩ => ?_) hs hpl))
  obtain ⟨a, b, xs, ys, ex, hx, hy, hmin, q⟩ := q1
  subst ex
  cases r1 with
  | cons r rr =>
    cases rr with
    | cons r' rr =>
      cases rr
      cases r
      cases r'
      obtain ⟨its, rv, p1, _⟩ := I1.tuple hx
      obtain ⟨its2, rv2, p2, _⟩ := I1.tuple hy
      have e1 := rv.length
      have e2 := rv2.length
      refine thn (RZ.call_list_zip (I1.ok.hd hc) (show s1.heap.IsTuple a its.toArray from p1) (show s1.heap.IsTuple b its2.toArray from p2) (by rw [List.size_toArray, List.size_toArray]; omega) (Q := fun v s2 => EP X pins σ Q v s2) fun h' ps S c tk dr hl hn hS hSo hk => ?_) fun u s2 hu => args_nil ?_
      · rw [List.size_toArray, List.size_toArray] at hl
        refine ⟨.ref S, _, I1.zipped rv rv2 (by omega) dr hl hn hS hSo hk, rfl, q ps S dr.nd hn (by omega) (fun p hp => I1.hok.fresh (dr.lo p hp)) (I1.hok.fresh hS)⟩
      · exact hu
end
end L2

end

section
namespace Mp
open PySem PySem.Spec PyProof.Rows L2

/-! ### further readings of data -/
section
variable {X : Cx} {n : Nat} {W : WX} {wh : Wh} {nm : Nm} {S : Sc}
theorem es_one : ∀ {as : Es}, as.len = 1 → ∃ e, as = .cons e .nil
  | .cons e .nil, _ => ⟨e, rfl⟩
  | .nil, h => by cases h
  | .cons e (.cons _ _), h => by
    have h : _ + 1 + 1 = 1 := h
    omega
theorem ext_one {x : Ext} {e : Ev} {σ : L2.St} {H : Hp} {Q : VK} (P : V → Hp → Prop)
    (f : ∀ F en F1 H1 en1 v d r, Sl X.K F H en σ → Stp X.K S.io σ F H en F1 H1 en1 → See X.K F1 H1 v d → extD x [d] = some r → Cont X.K S.io σ F H en en1 r Q → P v H1) :
    tV X.K S.io W (extV x [e]) σ H Q → tA X.K S.io W e.a σ H P := fun ⟨F, en, sl, h⟩ => ⟨F, en, sl, by
  have h : Wpx X.K S.io W σ F H en ((((e.a en).bind fun q => (.ok ([q.1], q.2) : R (List Av × En))).bind fun q => (Res.get (seeAll q.2 q.1)).bind fun ds => (Res.get (extD x ds)).bind fun r => (.ok (r, q.2) : R (Rv × En)))) fun r F' H' en' => ∀ v, RvOk X.K σ H en F' H' en' v r → Q v H' := h
  refine (Wpx.nest h).seq (Stp.refl sl) fun av F1 H1 en1 st h v hv => ?_
  have h : Wpx X.K S.io W σ F H en ((Res.get (seeAll en1 [av])).bind fun ds => (Res.get (extD x ds)).bind fun r => (.ok (r, en1) : R (Rv × En))) fun r F' H' en' => ∀ v, RvOk X.K σ H en F' H' en' v r → Q v H' := h
  obtain ⟨ds, ed, h⟩ := h.get
  obtain ⟨r, er, h3⟩ := h.get
  unfold seeAll at ed
  cases hd : av.see en1 with
  | none => rw [hd] at ed; cases ed
  | some d =>
    rw [hd] at ed
    cases ed
    exact f F en F1 H1 en1 v d r sl st (hv.see st.sl hd) er fun F' H' v s q => h3.done F' H' s v q⟩
theorem RpAll.reverse {K : PySem.W.Frag} {F : Hp} : ∀ {vs : List V} {ds : List D}, RpAll K F vs ds → RpAll K F vs.reverse ds.reverse
  | [], [], _ => .nil
  | v :: vs, d :: ds, h => by
    cases h with
    | cons h1 h2 =>
      rw [List.reverse_cons, List.reverse_cons]
      exact RpAll.append (RpAll.reverse h2) (.cons h1 .nil)
theorem Cont.dct {K : PySem.W.Frag} {io : Option Nat} {σ : L2.St} {F H F1 H1 : Hp} {en en1 : En} {Q : VK} {kvs : List (Key × V)} {ds : List (D × D)} {p : Addr} (c : Cont K io σ F H en en1 (.val (.dict ds)) Q) (s : Stp K io σ F H en F1 H1 en1) (h : RpKV K F1 kvs ds) (hp : H1 p = none) : Q (.ref p) (upd H1 p (.dK kvs)) := by
  have hF : F1 p = none := by
    cases q : F1 p with
    | none => rfl
    | some o => rw [s.sl.sub p o q] at hp; cases hp
  have hn : ¬ OwnAt σ en1 p := fun ⟨i, ds, h1, h2⟩ => by
    obtain ⟨a, xs, h3, h4, _⟩ := s.sl.own i ds h1
    rw [h2] at h3
    cases h3
    rw [hp] at h4
    cases h4
  have s1 := s.trans (Stp.laid (io := io) s.sl (o := .dK kvs) hp)
  have h0 : H p = none ∨ OwnAt σ en p := by
    by_cases ho : OwnAt σ en p
    · exact .inr ho
    · cases q : H p with
      | none => exact .inl rfl
      | some o => rw [s.keep p o q ho] at hp; cases hp
  have s2 := Stp.frozen s1.sl (p := p) (o := .dK kvs) upd_same hF hn h0 s1
  exact c _ _ _ s2 (.dct upd_same (h.mono (sub_newF s.sl.sub hp)))
theorem es_two : ∀ {as : Es}, as.len = 2 → ∃ e e2, as = .cons e (.cons e2 .nil)
  | .cons e (.cons e2 .nil), _ => ⟨e, e2, rfl⟩
  | .nil, h => by cases h
  | .cons e .nil, h => by cases h
  | .cons e (.cons _ (.cons _ _)), h => by
    have h : _ + 1 + 1 + 1 = 2 := h
    omega
theorem ext_all {x : Ext} {es : Es} {σ : L2.St} {H : Hp} {Q : VK} (P : List V → Hp → Prop)
    (f : ∀ F en F1 H1 en1 vs ds r, Sl X.K F H en σ → Stp X.K S.io σ F H en F1 H1 en1 → SeeAll X.K F1 H1 vs ds → extD x ds = some r → Cont X.K S.io σ F H en en1 r Q → P vs H1) :
    tV X.K S.io W (extV x (evEs S es)) σ H Q → tAs X.K S.io W (avsOf (evEs S es)) σ H P := fun ⟨F, en, sl, h⟩ => ⟨F, en, sl, h.seq (Stp.refl sl) fun avs F1 H1 en1 st h vs hvs => by
  obtain ⟨ds, ed, h⟩ := h.get
  obtain ⟨r, er, h⟩ := h.get
  exact f F en F1 H1 en1 vs ds r sl st (seeAll_of st.sl hvs ed) er fun F' H' v s q => h.done F' H' s v q⟩
theorem Stp.tup1 {K : PySem.W.Frag} {io : Option Nat} {σ : L2.St} {F H F1 H1 : Hp} {en en1 : En} {ds : List D} {xs : List V} {p : Addr} (s : Stp K io σ F H en F1 H1 en1) (h : RpAll K F1 xs ds) (hp : H1 p = none) :
    ∃ F2, Stp K io σ F H en F2 (upd H1 p (.tup xs)) en1 ∧ Sub F1 F2 ∧ Rp K F2 (.ref p) (.tuple ds) := by
  have hF : F1 p = none := by
    cases q : F1 p with
    | none => rfl
    | some o => rw [s.sl.sub p o q] at hp; cases hp
  have hn : ¬ OwnAt σ en1 p := fun ⟨i, ds, h1, h2⟩ => by
    obtain ⟨a, xs, h3, h4, _⟩ := s.sl.own i ds h1
    rw [h2] at h3
    cases h3
    rw [hp] at h4
    cases h4
  have s1 := s.trans (Stp.laid (io := io) s.sl (o := .tup xs) hp)
  have h0 : H p = none ∨ OwnAt σ en p := by
    by_cases ho : OwnAt σ en p
    · exact .inr ho
    · cases q : H p with
      | none => exact .inl rfl
      | some o => rw [s.keep p o q ho] at hp; cases hp
  have s2 := Stp.frozen s1.sl (p := p) (o := .tup xs) upd_same hF hn h0 s1
  exact ⟨_, s2, sub_newF s.sl.sub hp, .tup (.inl (.inl upd_same)) (h.mono (sub_newF s.sl.sub hp))⟩
theorem Stp.lst1 {K : PySem.W.Frag} {io : Option Nat} {σ : L2.St} {F H F1 H1 : Hp} {en en1 : En} {ds : List D} {xs : List V} {p : Addr} (s : Stp K io σ F H en F1 H1 en1) (h : RpAll K F1 xs ds) (hp : H1 p = none) :
    ∃ F2, Stp K io σ F H en F2 (upd H1 p (.lst xs)) en1 ∧ Sub F1 F2 ∧ Rp K F2 (.ref p) (.list ds) := by
  have hF : F1 p = none := by
    cases q : F1 p with
    | none => rfl
    | some o => rw [s.sl.sub p o q] at hp; cases hp
  have hn : ¬ OwnAt σ en1 p := fun ⟨i, ds, h1, h2⟩ => by
    obtain ⟨a, xs, h3, h4, _⟩ := s.sl.own i ds h1
    rw [h2] at h3
    cases h3
    rw [hp] at h4
    cases h4
  have s1 := s.trans (Stp.laid (io := io) s.sl (o := .lst xs) hp)
  have h0 : H p = none ∨ OwnAt σ en p := by
    by_cases ho : OwnAt σ en p
    · exact .inr ho
    · cases q : H p with
      | none => exact .inl rfl
      | some o => rw [s.keep p o q ho] at hp; cases hp
  have s2 := Stp.frozen s1.sl (p := p) (o := .lst xs) upd_same hF hn h0 s1
  exact ⟨_, s2, sub_newF s.sl.sub hp, .lst (.inl (.inl upd_same)) (h.mono (sub_newF s.sl.sub hp))⟩
theorem Stp.zips {K : PySem.W.Frag} {io : Option Nat} {σ : L2.St} {F H F1 H1 : Hp} {en en1 : En} (st : Stp K io σ F H en F1 H1 en1) : ∀ {ps : List Addr} {xs ys : List V} {ds es : List D},
    ps.Nodup → (∀ p ∈ ps, H1 p = none) → RpAll K F1 xs ds → RpAll K F1 ys es → ps.length = min xs.length ys.length → ∃ F2, Stp K io σ F H en F2 (zipH H1 ps xs ys) en1 ∧ Sub F1 F2 ∧ RpAll K F2 (ps.map V.ref) (zipD ds es)
  | [], xs, ys, ds, es, _, _, r1, r2, hl => by
    refine ⟨F1, ?_, fun _ _ z => z, ?_⟩
    · have e : zipH H1 [] xs ys = H1 := by unfold zipH; rfl
      rw [e]
      exact st
    · have e : zipD ds es = [] := by
        cases r1 with
        | nil => rfl
        | cons a b =>
          cases r2 with
          | nil => rfl
          | cons c d => simp at hl
      rw [e]
      exact .nil
  | p :: ps, xs, ys, ds, es, nd, hp, r1, r2, hl => by
    cases r1 with
    | nil => simp at hl
    | cons a1 b1 =>
      rename_i x xs d ds
      cases r2 with
      | nil => simp at hl
      | cons a2 b2 =>
        rename_i y ys e es
        rw [List.nodup_cons] at nd
        obtain ⟨F2, s2, sb, r⟩ := Stp.zips st (ps := ps) nd.2 (fun q hq => hp q (List.mem_cons_of_mem _ hq)) b1 b2 (by simp at hl; omega)
        have hn : zipH H1 ps xs ys p = none := by rw [zipH_none nd.1]; exact hp p List.mem_cons_self
        obtain ⟨F3, s3, sb3, r3⟩ := s2.tup1 (.cons (a1.mono sb) (.cons (a2.mono sb) .nil)) hn
        exact ⟨F3, s3, sb.trans sb3, .cons r3 (r.mono sb3)⟩
theorem pe_extD (C : Cz X n W wh nm S) {x : Ext} {as : Es} (hl : as.len = x.ar) (hg : x.gl.all (glB X.env.scope) = true) (h : SndEach X W nm S as) : PE X (x.ast (astEs nm as)) (tV X.K S.io W (extV x (evEs S as))) := by
  cases x with
  | rev p p2 p3 p4 k =>
    obtain ⟨e, rfl⟩ := es_one hl
    refine PEimp (pe_rev h.1.a) fun σ H Q h => ?_
    refine ext_one _ (fun F en F1 H1 en1 v d r sl st hv er c => ?_) h
    cases d with
    | list ds =>
      cases er
      obtain ⟨a, xs, rfl, h1, h2⟩ := hv.list st.sl.sub
      exact .inl ⟨a, xs, rfl, h1, fun p hp => c.own st h2.reverse hp⟩
    | tuple ds =>
      cases er
      obtain ⟨a, xs, rfl, h1, h2⟩ := hv.tup.tupleAt
      exact .inr ⟨a, xs, rfl, Sub.seqT st.sl.sub h1, fun p hp => c.tup st h2.reverse hp⟩
    | _ => cases er
  | dct0 p =>
    cases as with
    | cons e es => exact absurd hl (by simp [Es.len, Ext.ar])
    | nil =>
      refine PEimp pe_dnewK fun σ H Q ⟨F, en, sl, h⟩ p hp => ?_
      have c : Cont X.K S.io σ F H en en (.val (.dict [])) Q := fun F' H' v s q => h F' H' s v q
      exact c.dct (Stp.refl sl) .nil hp
  | dct1 p kk pk s vk pv i =>
    cases as with
    | cons e es => exact absurd hl (by simp [Es.len, Ext.ar])
    | nil =>
      refine PEimp (pe_disp (pps_cons (pe_str (x := s)) (pe_int (i := i)) pps_nil) rfl rfl (by simp) (by simp)) fun σ H Q ⟨F, en, sl, h⟩ p hp => ?_
      have c : Cont X.K S.io σ F H en en (.val (.dict [(.str s, .int i)])) Q := fun F' H' v s q => h F' H' s v q
      refine ⟨upd_same, [(.inr s, .int i)], rfl, by simp, ?_⟩
      have e : upd (upd H p (.dK [])) p (.dK (mergeK [] [(.inr s, .int i)])) = upd H p (.dK [(.inr s, .int i)]) := by
        funext b
        unfold upd
        split <;> rfl
      rw [e]
      exact c.dct (Stp.refl sl) (.cons (.int i) .nil) hp
  | zipL p pl p2 pz =>
    obtain ⟨e, e2, rfl⟩ := es_two hl
    have hg : (glB X.env.scope "list" && (glB X.env.scope "zip" && true)) = true := hg
    rw [Bool.and_eq_true, Bool.and_eq_true] at hg
    refine PEimp (pe_listZip C.gd.calm (gl_of hg.1).1 (C.tx.ty .list) (gl_of hg.2.1).1 C.tx.oth.2.2.1 h.all.as (star_ok e) (by show (backTo p2 (starEach [astE nm e2] X.env)).any (·.1) = false; rw [star1]; rfl)) fun σ H Q h => ?_
    refine ext_all _ (fun F en F1 H1 en1 vs ds r sl st hv er c => ?_) h
    match ds, vs, hv with
    | [.tuple xs, .tuple ys], [u, v], hv =>
      have er : (if xs.length ≤ 1000000 then some (Rv.own (zipD xs ys)) else none) = some r := er
      split at er
      · rename_i hx
        cases er
        obtain ⟨a, us, rfl, h1, h2⟩ := hv.1.tup.tupleAt
        obtain ⟨b, ws, rfl, h3, h4⟩ := hv.2.1.tup.tupleAt
        refine ⟨a, b, us, ws, rfl, Sub.seqT st.sl.sub h1, Sub.seqT st.sl.sub h3, by rw [h2.length]; omega, fun ps q nd hn hps hp hq => ?_⟩
        obtain ⟨F2, s2, sb, r2⟩ := st.zips nd hp h2 h4 hps
        exact c.own s2 r2 (by rw [zipH_none hn]; exact hq)
      · cases er
end
end Mp

end

section
namespace Mp
open PySem PySem.Spec PyProof.Rows L2

section
variable {n : Nat} {wh : Wh} {nm : Nm} {S : Sc}
theorem and2 {a b : Bool} (h : (a && b) = true) : a = true ∧ b = true := by rwa [Bool.and_eq_true] at h
theorem tyN_ok {t : Ty} (h : tyN t = true) : ∀ p k ns, t = .many p k ns → ns.length ≤ sizeLine := fun p k ns e => by
  subst e
  have h : decide (ns.length ≤ 64) = true := h
  exact Nat.le_trans (of_decide_eq_true h) (by decide)
theorem tru_cmp {g : En → R (Bool × En)} : (fun σ => ((fun σ => (g σ).bind fun q => (.ok (.val (.bool q.1), q.2) : R (Rv × En))) σ).bind fun q => truR (q.1.d, q.2)) = g := by
  funext σ
  show ((g σ).bind _).bind _ = g σ
  cases g σ <;> rfl
mutual
theorem snd_e : ∀ (e : E) {X : Cx} {W : WX}, Cz X n W wh nm S → chE nm wh X.env.scope e = true → Snd X W nm S e
  | .var p i, X, W, C, h => snd_of rfl rfl rfl rfl (pe_vars C h)
  | .frz p i, X, W, C, h => snd_of rfl rfl rfl rfl (pe_frz C h)
  | .mv p i, X, W, C, h => snd_of rfl rfl rfl rfl (pe_mv C h)
  | .pk p i, X, W, C, h =>
    let ⟨z1, _, z3, z4⟩ := pe_noV (S := S) (W := W) (α := Unit) (pe_slot C (p := p) h)
    ⟨z1, pt_pk C h, pe_pk C h, z3, z4⟩
  | .tmp e, X, W, C, h => by
    have ih := snd_e e C h
    obtain ⟨z1, z2, z3, z4⟩ := pe_noV (S := S) (W := W) (α := Unit) ih.v
    refine ⟨z1, ⟨fun pins s σ H Q I ⟨F, en, sl, h⟩ => h.elim⟩, ?_, z3, z4⟩
    refine PEimp ih.v fun σ H Q ⟨F, en, sl, h⟩ => ⟨F, en, sl, ?_⟩
    have h : Wpx X.K S.io W σ F H en (((evE S e).v en).bind fun q => match q.1 with
      | .own ds => .ok (.own ds, q.2)
      | _ => .bad) fun r F' H' en' => ∀ v, AvOk X.K σ H en F' H' en' v r → Q v H' := h
    exact h.seq (Stp.refl sl) fun r F1 H1 en1 st h v hv => by
      cases r with
      | val d => exact h.elim
      | own ds => exact h.done F1 H1 st v hv
  | .int p k i, X, W, C, h => snd_lit rfl rfl rfl rfl pe_int fun _ => .int i
  | .bl p k b, X, W, C, h => snd_lit rfl rfl rfl rfl pe_bl fun _ => .bl b
  | .non p k, X, W, C, h => snd_lit rfl rfl rfl rfl pe_non fun _ => .non
  | .str p k s, X, W, C, h => snd_lit rfl rfl rfl rfl pe_str fun _ => .str s
  | .glob p g, X, W, C, h => by
    obtain ⟨h1, h2⟩ := and2 h
    obtain ⟨g1, g2⟩ := gl_of h2
    obtain ⟨v, u, m, r, q⟩ := C.tx.csts g (of_decide_eq_true h1)
    exact snd_lit rfl rfl rfl rfl (pe_glob g1 m r g2) q
  | .tup p k es, X, W, C, h => snd_of rfl rfl rfl rfl (pe_tupD (snd_es es C h).all)
  | .lst p es, X, W, C, h => snd_of rfl rfl rfl rfl (pe_lstD (snd_es es C h).all)
  | .bin p o a b, X, W, C, h =>
    let ⟨h1, h2⟩ := and2 h
    snd_of rfl rfl rfl rfl (pe_binD (snd_e a C h1) (snd_e b C h2))
  | .cmp p o a b, X, W, C, h =>
    let ⟨h1, h2⟩ := and2 h
    snd_ofT rfl rfl rfl (pe_cmpD C (snd_e a C h1) (snd_e b C h2)) (by rw [tru_cmp]; exact pt_cmpD C (snd_e a C h1) (snd_e b C h2))
  | .cmp2 p o o' a b c, X, W, C, h =>
    let ⟨h1, h2⟩ := and2 h
    let ⟨h2, h3⟩ := and2 h2
    snd_ofT rfl rfl rfl (pe_cmp2D C (snd_e a C h1) (snd_e b C h2) (snd_e c C h3)) (by rw [tru_cmp]; exact pt_cmp2D C (snd_e a C h1) (snd_e b C h2) (snd_e c C h3))
  | .neg p a, X, W, C, h => snd_of rfl rfl rfl rfl (pe_negD (snd_e a C h))
  | .not p a, X, W, C, h => snd_ofT rfl rfl rfl (pe_notD (snd_e a C h)) (pt_notD (snd_e a C h))
  | .and p es, X, W, C, h =>
    let ⟨h1, h2⟩ := and2 h
    snd_ofT rfl rfl rfl (pe_andD (snd_es es C h2) (len_ne h1)) (PW.pt (pw_andD (snd_es es C h2) (len_ne h1)))
  | .or p es, X, W, C, h =>
    let ⟨h1, h2⟩ := and2 h
    snd_ofT rfl rfl rfl (pe_orD (snd_es es C h2) (len_ne h1)) (PW.pt (pw_orD (snd_es es C h2) (len_ne h1)))
  | .ite p c a b, X, W, C, h =>
    let ⟨h1, h2⟩ := and2 h
    let ⟨h2, h3⟩ := and2 h2
    snd_ofT rfl rfl rfl (pe_iteD (snd_e c C h1) (snd_e a C h2) (snd_e b C h3)) (pt_iteD (snd_e c C h1) (snd_e a C h2) (snd_e b C h3))
  | .ix p a i, X, W, C, h =>
    let ⟨h1, h2⟩ := and2 h
    let ⟨h2, h3⟩ := and2 h2
    snd_of rfl rfl rfl rfl (pe_ixD (snd_e a C h1) (snd_e i C h2))
  | .sl p p2 a lo hi, X, W, C, h =>
    let ⟨h1, h2⟩ := and2 h
    let ⟨h2, h3⟩ := and2 h2
    snd_of rfl rfl rfl rfl (pe_slD (snd_e a C h1) (snd_e lo C h2) (snd_e hi C h3))
  | .no, X, W, C, h => ⟨⟨fun pins s σ H Q I ⟨F, en, sl, h⟩ => h.elim⟩, ⟨fun pins s σ H Q I ⟨F, en, sl, h⟩ => h.elim⟩, ⟨fun pins s σ H Q I ⟨F, en, sl, h⟩ => h.elim⟩, POimp po_none fun σ H Q ⟨F, en, sl, h⟩ => h.done F H (Stp.refl sl), ⟨fun pins s σ H Q I ⟨F, en, sl, h⟩ => pts_nil.run pins s σ H Q I (h.done F H (Stp.refl sl))⟩⟩
  | .bi p pn f as, X, W, C, h =>
    let ⟨h1, h2⟩ := and2 h
    let ⟨h2, h3⟩ := and2 h2
    let ⟨h3, h4⟩ := and2 h3
    snd_of rfl rfl rfl rfl (pe_biD C h1 h2 (of_decide_eq_true h3) (snd_es as C h4).all)
  | .isi p pn a t, X, W, C, h =>
    let ⟨h1, h2⟩ := and2 h
    let ⟨h2, h3⟩ := and2 h2
    let ⟨h3, h4⟩ := and2 h3
    snd_of rfl rfl rfl rfl (pe_isiD C h1 h3 (snd_e a C h2) (tyN_ok h4))
  | .call p pn f as, X, W, C, h =>
    let ⟨h1, h2⟩ := and2 h
    let ⟨h2, h3⟩ := and2 h2
    let ⟨h3, h4⟩ := and2 h3
    let ⟨h4, h5⟩ := and2 h4
    snd_of rfl rfl rfl rfl (pe_callD C (of_decide_eq_true h1) h2 (of_decide_eq_true h3) (of_decide_eq_true h4) (snd_es as C h5).all)
  | .callk p pn f as ks vs pm, X, W, C, h =>
    let ⟨h1, h2⟩ := and2 h
    let ⟨h2, h3⟩ := and2 h2
    let ⟨h3, h4⟩ := and2 h3
    let ⟨h4, h5⟩ := and2 h4
    let ⟨h5, h6⟩ := and2 h5
    let ⟨h6, h7⟩ := and2 h6
    snd_of rfl rfl rfl rfl (pe_callkD C (of_decide_eq_true h1) h2 (of_decide_eq_true h3) (of_decide_eq_true h4) (of_decide_eq_true h5) (snd_es as C h6) (snd_es vs C h7))
  | .ext x as, X, W, C, h =>
    let ⟨h1, h2⟩ := and2 h
    let ⟨h2, h3⟩ := and2 h2
    snd_of rfl rfl rfl rfl (pe_extD C (of_decide_eq_true h1) h2 (snd_es as C h3))
  | .comp p own sc' elt tg it cnd, X, W, C, h =>
    let ⟨_, h2⟩ := and2 h
    let ⟨h2, _⟩ := and2 h2
    snd_of rfl rfl rfl rfl (pe_compD C h (snd_it it C h2) (fun X' C' h' => snd_e cnd C' h') fun X' C' h' => snd_e elt C' h')
theorem snd_es : ∀ (es : Es) {X : Cx} {W : WX}, Cz X n W wh nm S → chEs nm wh X.env.scope es = true → SndEach X W nm S es
  | .nil, _, _, _, _ => trivial
  | .cons e es, X, W, C, h =>
    let ⟨h1, h2⟩ := and2 h
    ⟨snd_e e C h1, snd_es es C h2⟩
theorem snd_it : ∀ (it : It) {X : Cx} {W : WX}, Cz X n W wh nm S → chIt nm wh X.env.scope it = true → SndIt X W nm S it
  | .seq e, X, W, C, h => snd_e e C h
  | .rng1 p pn a, X, W, C, h => snd_e a C (and2 h).2
  | .rng2 p pn a b, X, W, C, h => ⟨snd_e a C (and2 (and2 h).2).1, snd_e b C (and2 (and2 h).2).2⟩
  | .zip p pn a b, X, W, C, h => ⟨snd_e a C (and2 (and2 h).2).1, snd_e b C (and2 (and2 h).2).2⟩
  | .enum p pn a, X, W, C, h => snd_e a C (and2 h).2
end
end
end Mp

end

section
namespace Mp
open PySem PySem.Spec PyProof.Rows L2

/-! ### statements: the checks -/
def isCompE : E → Bool
  | .comp .. => true
  | _ => false
def isTupX : E → Bool
  | .tup .. => true
  | .tmp e => isTupX e
  | _ => false
def isNm : Tg → Bool
  | .nm .. => true
  | .nmo .. => true
  | _ => false
def allNm : Tgs → Bool
  | .nil => true
  | .cons t ts => isNm t && allNm ts
/-- a written tuple is stored from the left -/
def swNo (ts : Tgs) : Bool := !(ts.len == 2 || ts.len == 3) || !allNm ts
def noPk : It → Bool
  | .seq (.pk ..) => false
  | _ => true
section
variable (n : Nm) (w : Wh) (sc : Scope)
def nmB (i : Nat) : Bool := decide (i < n.N.length) && locB sc (n.slot i)
def lclN (i : Nat) : Bool := decide (i < n.N.length) && lclB sc (n.slot i)
mutual
def chTF : Tg → Bool
  | .nm _ i => nmB n sc i
  | .nmo .. => false
  | .tup _ _ ts => chTFs ts
  | .sub _ _ i x => slotB n sc i && chE n w sc x
def chTFs : Tgs → Bool
  | .nil => true
  | .cons t ts => chTF t && chTFs ts
end
/-- a target that is no plain local -/
def cellIn : Tgs → Bool
  | .nil => false
  | .cons (.nm _ i) ts => !(sc.names.lookup (n.slot i) == some .local) || cellIn ts
  | .cons _ ts => cellIn ts
def chSet (t : Tg) (e : E) : Bool := match t with
  | .nm _ i => nmB n sc i && (isCompE e || !isComp e)
  | .nmo _ i => nmB n sc i && (isCompE e || !isComp e)
  | .tup _ _ ts => chTFs n w sc ts && (!isComp e && (!isTupX e || (swNo ts || cellIn n sc ts)))
  | .sub _ _ i x => (slotB n sc i && chE n w sc x) && !isComp e
def ch2 (q1 q2 : Pos) (i j : Nat) (a b : E) : Bool := lclN n sc i && (lclN n sc j && (decide (i ≠ j) && (decide (n.slot i ≠ n.slot j) && ((q2.line == q1.line) && (!([astE n a, astE n b].all (foldedForSure 8)) && !([astE n a, astE n b].all (constantsAlone 8)))))))
def ch3 (q1 q2 q3 : Pos) (i j l : Nat) (a b c : E) : Bool := lclN n sc i && (lclN n sc j && (lclN n sc l && (decide (i ≠ j ∧ i ≠ l ∧ j ≠ l) && (decide (n.slot i ≠ n.slot j ∧ n.slot i ≠ n.slot l ∧ n.slot j ≠ n.slot l) && (((q2.line == q1.line) && (q3.line == q1.line)) && (!([astE n a, astE n b, astE n c].all (foldedForSure 8)) && !([astE n a, astE n b, astE n c].all (constantsAlone 8))))))))
def ansB (c : Str) (ans : List (Str × Bool)) : Bool := ans.all fun q => w.cl.contains (q.1, c, q.2) && w.ks.contains q.1
mutual
def chX (i : Nat) : XE → Bool
  | .str .. => true
  | .var _ j => slotB n sc j && decide (j ≠ i)
  | .fld .. => false
  | .isi _ _ _ _ c ans => glB sc "isinstance" && (glB sc c && (notDbg c && (w.ks.contains c && ansB w c ans)))
  | .and .. => false
  | .lst _ xs => chXs i xs
  | .tup _ _ xs => chXs i xs
def chXs (i : Nat) : XEs → Bool
  | .nil => true
  | .cons x xs => chX i x && chXs i xs
end
def chXSt (i : Nat) : XSt → Bool
  | .set _ _ j x => chX n w sc i x && (nmB n sc j && decide (j ≠ i))
  | .ret _ x => chX n w sc i x
def chHd (h : Hd) : Bool := glB sc h.c && (notDbg h.c && (w.ks.contains h.c && (ansB w h.c h.ans && (lclN n sc h.i && (slotB n sc h.i && (!h.su.isEmpty && h.su.all (chXSt n w sc h.i)))))))
mutual
def chS : Sm → Bool
  | .set _ t e => chE n w sc e && chSet n w sc t e
  | .par2 _ _ _ _ _ q1 q2 i j a b => chE n w sc a && (chE n w sc b && ch2 n sc q1 q2 i j a b)
  | .par3 _ _ _ _ _ q1 q2 q3 i j l a b c => chE n w sc a && (chE n w sc b && (chE n w sc c && ch3 n sc q1 q2 q3 i j l a b c))
  | .pv2 _ _ _ _ _ q1 q2 i j a b => chE n w sc a && (chE n w sc b && ch2 n sc q1 q2 i j a b)
  | .pv3 _ _ _ _ _ q1 q2 q3 i j l a b c => chE n w sc a && (chE n w sc b && (chE n w sc c && ch3 n sc q1 q2 q3 i j l a b c))
  | .ex _ e => chE n w sc e && !isComp e
  | .app _ pc pa _ i e => slotB n sc i && (chE n w sc e && (pa.endLine == pc.line))
  | .ins _ pc pa _ i k e => slotB n sc i && (chE n w sc k && (chE n w sc e && (pa.endLine == pc.line)))
  | .ifs _ c a b => chE n w sc c && (chSs a && chSs b)
  | .whl _ c b => chE n w sc c && chSs b
  | .fors _ t it b => chIt n w sc it && (chTg n w none sc t && (itTg it t && (noPk it && chSs b)))
  | .ret _ e => chE n w sc e
  | .brk _ => true
  | .cnt _ => true
  | .pass _ => true
  | .nev _ => true
  | .rse _ _ _ c => glB sc c && (notDbg c && w.k0.contains c)
  | .tr _ b hs => chSs b && (!hs.isEmpty && hs.all (chHd n w sc))
def chSs : Sms → Bool
  | .nil => true
  | .cons s ss => chS s && chSs ss
end
end

/-! ### a frame on its way -/
/-- since the def's entry (Fb, Hb): oa, the address of the in-and-out list -/
structure Fi (K : PySem.W.Frag) (io : Option Nat) (Fb Hb : Hp) (oa : Option Addr) (σ : L2.St) (F H : Hp) (en : En) : Prop where
  sl : Sl K F H en σ
  mono : Sub Fb F
  new : ∀ a, F a ≠ none → Fb a ≠ none ∨ Hb a = none
  keep : ∀ b o, Hb b = some o → oa ≠ some b → H b = some o
  own : ∀ (i : Nat) (ds : List D) (a : Addr), en[i]? = some (.own ds) → σ[i]? = some (some (.ref a)) → Hb a = none ∨ (oa = some a ∧ io = some i)
  io : ∀ a, oa = some a → ∃ (p : Nat) (ds : List D), io = some p ∧ en[p]? = some (.own ds) ∧ σ[p]? = some (some (.ref a))
section
variable {K : PySem.W.Frag} {io : Option Nat} {Fb Hb : Hp} {oa : Option Addr} {σ σ' : L2.St} {F H F1 H1 : Hp} {en en1 : En} {P : Nat → Prop}
theorem Fi.io_at (fi : Fi K io Fb Hb oa σ F H en) {a : Addr} (h : oa = some a) : H a ≠ none ∧ F a = none := by
  obtain ⟨p, ds, _, h2, h3⟩ := fi.io a h
  obtain ⟨b, xs, g1, g2, g3, _⟩ := fi.sl.own p ds h2
  rw [h3] at g1
  cases g1
  exact ⟨by rw [g2]; exact (fun z => nomatch z), g3⟩
theorem Fi.fresh (fi : Fi K io Fb Hb oa σ F H en) {a : Addr} (h : H a = none) : Hb a = none := by
  cases q : Hb a with
  | none => rfl
  | some o =>
    by_cases e : oa = some a
    · exact absurd h (fi.io_at e).1
    · rw [fi.keep a o q e] at h
      cases h
theorem Fi.step (fi : Fi K io Fb Hb oa σ F H en) (st : Stp K io σ F H en F1 H1 en1) : Fi K io Fb Hb oa σ F1 H1 en1 := by
  have io1 : ∀ a, oa = some a → ∃ (p : Nat) (ds : List D), io = some p ∧ en1[p]? = some (.own ds) ∧ σ[p]? = some (some (.ref a)) := fun a h => by
    obtain ⟨p, ds, h1, h2, h3⟩ := fi.io a h
    obtain ⟨es, h4⟩ := st.io' p h1 ⟨ds, h2⟩
    exact ⟨p, es, h1, h4, h3⟩
  refine ⟨st.sl, fi.mono.trans st.mono, fun a h => ?_, fun b o h hb => ?_, fun i ds a h1 h2 => ?_, io1⟩
  · rcases st.new a h with y | y | y
    · exact fi.new a y
    · exact .inr (fi.fresh y)
    · obtain ⟨i, ds, h1, h2⟩ := y
      rcases fi.own i ds a h1 h2 with z | ⟨z, _⟩
      · exact .inr z
      · obtain ⟨p, es, _, g2, g3⟩ := io1 a z
        obtain ⟨b, xs, w1, _, w3, _⟩ := st.sl.own p es g2
        rw [g3] at w1
        cases w1
        exact absurd w3 h
  · refine st.keep b o (fi.keep b o h hb) fun ⟨i, ds, h1, h2⟩ => ?_
    rcases fi.own i ds b h1 h2 with z | ⟨z, _⟩
    · rw [h] at z; cases z
    · exact hb z
  · obtain ⟨es, h3⟩ := st.own' i ds h1
    exact fi.own i es a h3 h2
theorem Fi.tg (fi : Fi K io Fb Hb oa σ F H en) (sl : Sl K F H en1 σ') (t : TgOk io P σ en σ' en1) : Fi K io Fb Hb oa σ' F H en1 where
  sl := sl
  mono := fi.mono
  new := fi.new
  keep := fi.keep
  own := fun i ds a h1 h2 => by
    rcases t.at' i with ⟨e1, e2⟩ | ⟨⟨d, e1⟩, _⟩
    · rw [e1] at h1
      rw [e2] at h2
      exact fi.own i ds a h1 h2
    · rw [e1] at h1
      cases h1
  io := fun a h => by
    obtain ⟨p, ds, h1, h2, h3⟩ := fi.io a h
    rcases t.at' p with ⟨e1, e2⟩ | ⟨_, e2, _⟩
    · exact ⟨p, ds, h1, by rw [e1]; exact h2, by rw [e2]; exact h3⟩
    · exact absurd h1 e2
theorem Fi.put (fi : Fi K io Fb Hb oa σ F H en) {i : Nat} {v : V} {d : D} (hi : i < en.length) (hio : io ≠ some i) (r : Rp K F v d) : Fi K io Fb Hb oa (σ.set i (some v)) F H (en.set i (.val d)) :=
  fi.tg (P := fun _ => True) (fi.sl.put hi r) (.put hi hio trivial)
/-- a new list's address is new since the entry -/
theorem Fi.own_new {F0 H0 : Hp} {en0 : En} {a : Addr} (fi0 : Fi K io Fb Hb oa σ F0 H0 en0) (fi : Fi K io Fb Hb oa σ F H en) (hn : ¬ OwnAt σ en a) (h0 : H0 a = none ∨ OwnAt σ en0 a) : Hb a = none := by
  rcases h0 with y | ⟨i, ds, h1, h2⟩
  · exact fi0.fresh y
  · rcases fi0.own i ds a h1 h2 with z | ⟨z, _⟩
    · exact z
    · obtain ⟨p, es, _, g2, g3⟩ := fi.io a z
      exact absurd ⟨p, es, g2, g3⟩ hn
theorem Fi.putOwn (fi : Fi K io Fb Hb oa σ F H en) {i : Nat} {a : Addr} {xs : List V} {ds : List D} (hi : i < en.length) (hio : io ≠ some i) (h1 : H a = some (.lst xs)) (h2 : F a = none) (h3 : RpAll K F xs ds) (hn : ¬ OwnAt σ en a) (hb : Hb a = none) : Fi K io Fb Hb oa (σ.set i (some (.ref a))) F H (en.set i (.own ds)) where
  sl := {
    len := by rw [List.length_set, List.length_set]; exact fi.sl.len
    sub := fi.sl.sub
    val := fun j e h => by
      by_cases ei : i = j
      · subst ei
        rw [List.getElem?_set_self hi] at h
        cases h
      · rw [List.getElem?_set_ne ei] at h ⊢
        exact fi.sl.val j e h
    own := fun j e h => by
      by_cases ei : i = j
      · subst ei
        rw [List.getElem?_set_self hi] at h
        cases h
        exact ⟨a, xs, List.getElem?_set_self (by rw [← fi.sl.len]; exact hi), h1, h2, h3⟩
      · rw [List.getElem?_set_ne ei] at h ⊢
        exact fi.sl.own j e h
    ap := fun j k es fs b g1 g2 g3 g4 => by
      by_cases ej : i = j
      · by_cases ek : i = k
        · exact ej.symm.trans ek
        · subst ej
          rw [List.getElem?_set_self (by rw [← fi.sl.len]; exact hi)] at g3
          rw [List.getElem?_set_ne ek] at g2 g4
          cases g3
          exact absurd ⟨k, fs, g2, g4⟩ hn
      · by_cases ek : i = k
        · subst ek
          rw [List.getElem?_set_self (by rw [← fi.sl.len]; exact hi)] at g4
          rw [List.getElem?_set_ne ej] at g1 g3
          cases g4
          exact absurd ⟨j, es, g1, g3⟩ hn
        · rw [List.getElem?_set_ne ej] at g1 g3
          rw [List.getElem?_set_ne ek] at g2 g4
          exact fi.sl.ap j k es fs b g1 g2 g3 g4 }
  mono := fi.mono
  new := fi.new
  keep := fi.keep
  own := fun j es b g1 g2 => by
    by_cases ej : i = j
    · subst ej
      rw [List.getElem?_set_self (by rw [← fi.sl.len]; exact hi)] at g2
      cases g2
      exact .inl hb
    · rw [List.getElem?_set_ne ej] at g1 g2
      exact fi.own j es b g1 g2
  io := fun b h => by
    obtain ⟨p, es, g1, g2, g3⟩ := fi.io b h
    have ne : i ≠ p := fun e => hio (by rw [g1, e])
    exact ⟨p, es, g1, by rw [List.getElem?_set_ne ne]; exact g2, by rw [List.getElem?_set_ne ne]; exact g3⟩
/-- an own list is written -/
theorem Fi.write (fi : Fi K io Fb Hb oa σ F H en) {i : Nat} {a : Addr} {ys : List V} {ds es : List D} (hs : σ[i]? = some (some (.ref a))) (h : en[i]? = some (.own ds)) (r : RpAll K F ys es) : Fi K io Fb Hb oa σ F (upd H a (.lst ys)) (en.set i (.own es)) := by
  have hi : i < en.length := (List.getElem?_eq_some_iff.mp h).1
  obtain ⟨a', xs', g1, g2, g3, g4⟩ := fi.sl.own i ds h
  rw [hs] at g1
  cases g1
  have other : ∀ (j : Nat) (fs : List D) (b : Addr), i ≠ j → en[j]? = some (.own fs) → σ[j]? = some (some (.ref b)) → b ≠ a := fun j fs b e q1 q2 z => by
    subst z
    exact e (fi.sl.ap i j ds fs b h q1 hs q2)
  refine ⟨⟨by rw [List.length_set]; exact fi.sl.len, fun b u q => ?_, fun j e q => ?_, fun j e q => ?_, fun j k fs gs b q1 q2 q3 q4 => ?_⟩, fi.mono, fi.new, fun b o q hb => ?_, fun j fs b q1 q2 => ?_, fun b q => ?_⟩
  · rw [upd_ne (fun z => by subst z; rw [g3] at q; cases q)]
    exact fi.sl.sub b u q
  · by_cases ej : i = j
    · subst ej
      rw [List.getElem?_set_self hi] at q
      cases q
    · rw [List.getElem?_set_ne ej] at q
      exact fi.sl.val j e q
  · by_cases ej : i = j
    · subst ej
      rw [List.getElem?_set_self hi] at q
      cases q
      exact ⟨a, ys, hs, upd_same, g3, r⟩
    · rw [List.getElem?_set_ne ej] at q
      obtain ⟨b, zs, w1, w2, w3, w4⟩ := fi.sl.own j e q
      exact ⟨b, zs, w1, by rw [upd_ne (other j e b ej q w1)]; exact w2, w3, w4⟩
  · have get : ∀ (j : Nat) (fs : List D), (en.set i (.own es))[j]? = some (.own fs) → ∃ fs' : List D, en[j]? = some (.own fs') := fun j fs q => by
      by_cases ej : i = j
      · subst ej
        exact ⟨ds, h⟩
      · rw [List.getElem?_set_ne ej] at q
        exact ⟨fs, q⟩
    obtain ⟨_, w1⟩ := get j fs q1
    obtain ⟨_, w2⟩ := get k gs q2
    exact fi.sl.ap j k _ _ b w1 w2 q3 q4
  · have ne : b ≠ a := fun z => by
      subst z
      rcases fi.own i ds b h hs with w | ⟨w, _⟩
      · rw [q] at w; cases w
      · exact hb w
    rw [upd_ne ne]
    exact fi.keep b o q hb
  · by_cases ej : i = j
    · subst ej
      exact fi.own i ds b h q2
    · rw [List.getElem?_set_ne ej] at q1
      exact fi.own j fs b q1 q2
  · obtain ⟨p, fs, w1, w2, w3⟩ := fi.io b q
    by_cases ej : i = p
    · subst ej
      exact ⟨i, es, w1, List.getElem?_set_self hi, w3⟩
    · exact ⟨p, fs, w1, by rw [List.getElem?_set_ne ej]; exact w2, w3⟩
end

/-! ### what is wanted of statements -/
section
variable {K : PySem.W.Frag} {io : Option Nat} {Fb Hb : Hp} {oa : Option Addr} {W : WX} {σ : L2.St} {F H F1 H1 : Hp} {en en1 : En} {α : Type} {D' : Ends}
/-- the ends -/
def EndsOk (K : PySem.W.Frag) (Hb : Hp) (D : Ends) (σ : L2.St) (F H : Hp) : Fl → Prop
  | .nx => D.nx σ H
  | .brk => D.bk σ H
  | .cnt => D.ct σ H
  | .ret r => ∀ v, RvEnd K Hb F H v r → D.rt v H
def Gs (K : PySem.W.Frag) (io : Option Nat) (Fb Hb : Hp) (oa : Option Addr) (W : WX) (D : Ends) (F0 : Hp) (r : R (Fl × En)) : Prop :=
  r.wp (fun q => ∀ σ F H, Fi K io Fb Hb oa σ F H q.2 → Sub F0 F → EndsOk K Hb D σ F H q.1)
    fun x e => ∀ σ F H cls dd, Fi K io Fb Hb oa σ F H e → Sub F0 F → ExAt K F H x cls dd → W cls dd σ H
def tS (K : PySem.W.Frag) (io : Option Nat) (Fb Hb : Hp) (oa : Option Addr) (W : WX) (g : En → R (Fl × En)) : TS := fun D σ H => ∃ F en, Fi K io Fb Hb oa σ F H en ∧ Gs K io Fb Hb oa W D F (g en)
end
end Mp

end

section
namespace Mp
open PySem PySem.Spec PyProof.Rows L2

theorem Res.bind_assoc {ε α β γ : Type} {r : Res ε α} {k : α → Res ε β} {k2 : β → Res ε γ} : (r.bind k).bind k2 = r.bind fun q => (k q).bind k2 := by
  cases r <;> rfl
section
variable {K : PySem.W.Frag} {io : Option Nat} {Fb Hb : Hp} {oa : Option Addr} {W : WX} {σ : L2.St} {F F0 H F1 H1 : Hp} {en en1 : En} {α β : Type} {D D2 : Ends}
theorem Fi.seq {r : R (α × En)} {k : α × En → R (Fl × En)} {P' : α → Hp → Hp → En → Prop} (fi : Fi K io Fb Hb oa σ F H en) (h : Gs K io Fb Hb oa W D F0 (r.bind k)) (hs : Sub F0 F)
    (f : ∀ a F1 H1 en1, Stp K io σ F H en F1 H1 en1 → Fi K io Fb Hb oa σ F1 H1 en1 → Sub F0 F1 → Gs K io Fb Hb oa W D F0 (k (a, en1)) → P' a F1 H1 en1) : Wpx K io W σ F H en r P' := by
  cases r with
  | bad => exact h
  | ex x e => exact fun F' H' cls dd s z => h σ F' H' cls dd (fi.step s) (hs.trans s.mono) z
  | ok q =>
    obtain ⟨a, en1⟩ := q
    exact fun F1 H1 s => f a F1 H1 en1 s (fi.step s) (hs.trans s.mono) h
theorem Fi.seqD {e : Ev} {k : Rv × En → R (Fl × En)} {Q : VK} (fi : Fi K io Fb Hb oa σ F H en) (h : Gs K io Fb Hb oa W D F0 ((e.v en).bind k)) (hs : Sub F0 F)
    (f : ∀ r F1 H1 en1, Stp K io σ F H en F1 H1 en1 → Fi K io Fb Hb oa σ F1 H1 en1 → Sub F0 F1 → Gs K io Fb Hb oa W D F0 (k (r, en1)) → ∀ v, Rp K F1 v r.d → Q v H1) : Wpx K io W σ F H en (e.d en) fun d F' H' en' => ∀ v, Rp K F' v d → Q v H' := by
  unfold Ev.d
  cases q : e.v en with
  | bad => rw [q] at h; exact h
  | ex x e => rw [q] at h; exact fun F' H' cls dd s z => h σ F' H' cls dd (fi.step s) (hs.trans s.mono) z
  | ok z =>
    obtain ⟨r, en1⟩ := z
    rw [q] at h
    exact fun F1 H1 s v hv => f r F1 H1 en1 s (fi.step s) (hs.trans s.mono) h v hv
theorem Gs.imp {r : R (Fl × En)} {k : Fl × En → R (Fl × En)} (h : Gs K io Fb Hb oa W D F0 (r.bind k)) (hs : Sub F0 F1) (f : ∀ q σ F H, Fi K io Fb Hb oa σ F H q.2 → Sub F1 F → Gs K io Fb Hb oa W D F0 (k q) → EndsOk K Hb D2 σ F H q.1) : Gs K io Fb Hb oa W D2 F1 r := by
  cases r with
  | bad => exact h
  | ex x e => exact fun σ F H cls dd fi s z => h σ F H cls dd fi (hs.trans s) z
  | ok q => exact fun σ F H fi s => f q σ F H fi s h
theorem Gs.base {r : R (Fl × En)} (h : Gs K io Fb Hb oa W D F0 r) (hs : Sub F0 F1) : Gs K io Fb Hb oa W D F1 r := by
  cases r with
  | bad => exact h
  | ex x e => exact fun σ F H cls dd fi s z => h σ F H cls dd fi (hs.trans s) z
  | ok q => exact fun σ F H fi s => h σ F H fi (hs.trans s)
theorem Gs.need {b : Bool} {r : R (Fl × En)} (h : Gs K io Fb Hb oa W D F0 (.need b r)) : b = true ∧ Gs K io Fb Hb oa W D F0 r := by
  cases b with
  | true => exact ⟨rfl, h⟩
  | false => exact h.elim
theorem Gs.needB {b : Bool} {r : R α} {k : α → R (Fl × En)} (h : Gs K io Fb Hb oa W D F0 ((Res.need b r).bind k)) : b = true ∧ Gs K io Fb Hb oa W D F0 (r.bind k) := by
  cases b with
  | true => exact ⟨rfl, h⟩
  | false => exact h.elim
theorem Gs.done {fl : Fl} {en : En} (h : Gs K io Fb Hb oa W D F0 (.ok (fl, en))) : ∀ σ F H, Fi K io Fb Hb oa σ F H en → Sub F0 F → EndsOk K Hb D σ F H fl := h
/-- a result at a def's end -/
theorem Fi.rv {F' H' : Hp} {en' : En} {v : V} {r : Rv} (fi : Fi K io Fb Hb oa σ F H en) (fi' : Fi K io Fb Hb oa σ F' H' en') (h : RvOk K σ H en F' H' en' v r) : RvEnd K Hb F' H' v r := by
  cases r with
  | val d => exact h
  | own ds =>
    obtain ⟨a, xs, rfl, h1, h2, h3, h4, h5⟩ := h
    exact ⟨a, xs, rfl, h1, h2, h3, fi.own_new fi' h4 h5⟩
end

/-! ### no target raises -/
section
variable {nm : Nm} {wh : Wh} {S : Sc}
theorem need_noEx {α : Type} {b : Bool} {a : α} {x : Exc} {e : En} : (Res.need b (.ok a) : R α) ≠ .ex x e := by
  cases b <;> exact fun h => nomatch h
theorem bind_noEx {α β : Type} {r : R α} {k : α → R β} {x : Exc} {e : En} (h1 : ∀ x e, r ≠ .ex x e) (h2 : ∀ a, k a ≠ .ex x e) : r.bind k ≠ .ex x e := by
  cases r with
  | ok a => exact h2 a
  | ex x' e' => exact absurd rfl (h1 x' e')
  | bad => exact fun h => nomatch h
theorem pkAt_noEx {i : Nat} {en : En} {x : Exc} {e : En} : pkAt i en ≠ .ex x e := by
  unfold pkAt
  split <;> exact fun h => nomatch h
mutual
theorem tg_noEx : ∀ {t : Tg} {v : Rv} {en : En} {x : Exc} {e : En}, evTg S t v en ≠ .ex x e
  | .nm p i, v, en, x, e => fun h => need_noEx (show Res.need _ (.ok _) = _ from h)
  | .nmo p i, v, en, x, e => fun h => need_noEx (show Res.need _ (.ok _) = _ from h)
  | .tup p k ts, v, en, x, e => fun q => by
    have q : tupTg (evTgs S ts) v en = .ex x e := q
    unfold tupTg at q
    split at q
    · exact tgs_noEx q
    · cases q
  | .sub p pn i y, v, en, x, e => fun q => by
    have q : subTg i (evE S y) v en = .ex x e := q
    unfold subTg at q
    refine bind_noEx (fun _ _ => pkAt_noEx) (fun a => bind_noEx (fun _ _ => noEx_not) fun b => ?_) q
    split
    · split <;> exact fun h => nomatch h
    · exact fun h => nomatch h
theorem tgs_noEx : ∀ {ts : Tgs} {ds : List D} {en : En} {x : Exc} {e : En}, evTgs S ts ds en ≠ .ex x e
  | .nil, ds, en, x, e => fun q => by
    have q : (match ds with
      | [] => (.ok en : R En)
      | _ => .bad) = .ex x e := q
    split at q <;> cases q
  | .cons t ts, ds, en, x, e => fun q => by
    have q : (match ds with
      | d :: ds => (evTg S t (.val d) en).bind fun σ => evTgs S ts ds σ
      | [] => .bad) = .ex x e := q
    cases ds with
    | nil => cases q
    | cons d r =>
      simp only at q
      cases z : evTg S t (.val d) en with
      | bad => rw [z] at q; cases q
      | ex x' e' => exact tg_noEx z
      | ok en1 =>
        rw [z] at q
        exact tgs_noEx q
end
theorem it_noPk {it : It} {src : Src} {σ σ' : En} (h : evIt S it σ = .ok (src, σ')) (hp : noPk it = true) : src.2 = none := by
  obtain ⟨ds, o⟩ := src
  cases o with
  | none => rfl
  | some i =>
    cases it with
    | seq e =>
      obtain ⟨z, h⟩ := seq_lock h
      obtain ⟨p, rfl⟩ := e_lock h
      cases hp
    | _ => exact absurd (it_lock (vs := [i]) h rfl) (by simp)
end

/-! ### each statement -/
/-- a frame's context -/
structure Cs (X : Cx) (n : Nat) (W : WX) (wh : Wh) (nm : Nm) (S : Sc) : Prop extends Cz X n W wh nm S where
  kind : X.env.scope.kind = .function
  pass : PassesOwn (model X.prog X.w) X.A X.env X.xe
  fn : ∀ x, X.fn x = true
  stk : X.stack = X.env :: X.outer
  frm : X.env.frame = some X.env.locals
section
variable {X : Cx} {n : Nat} {W : WX} {wh : Wh} {nm : Nm} {S : Sc} {Fb Hb : Hp} {oa : Option Addr}
abbrev tSX (X : Cx) (S : Sc) (Fb Hb : Hp) (oa : Option Addr) (W : WX) (g : En → R (Fl × En)) : TS := tS X.K S.io Fb Hb oa W g
theorem PSimp {s : Stmt} {t t' : TS} (h : PS X s t) (f : ∀ D σ H, t' D σ H → t D σ H) : PS X s t' := ⟨fun pins s σ H D I q => h.run pins s σ H D I (f D σ H q)⟩
theorem PSsimp {s : List Stmt} {t t' : TS} (h : PSs X s t) (f : ∀ D σ H, t' D σ H → t D σ H) : PSs X s t' := ⟨fun pins s σ H D I q => h.run pins s σ H D I (f D σ H q)⟩
theorem loc_of {x : Str} (C : Cs X n W wh nm S) (h : locB X.env.scope x = true) : LocOk X x := by
  unfold locB at h
  rw [Bool.and_eq_true] at h
  have h2 := h.2
  refine ⟨?_, .inl (C.fn x)⟩
  split at h2
  · rename_i q; exact .inl q
  · rename_i q; exact .inr q
  · cases h2
theorem name_of (C : Cs X n W wh nm S) {i : Nat} (h : i < nm.N.length) : X.N[i]? = some (nm.slot i) := by
  rw [C.N]
  unfold Nm.slot
  rw [List.getElem?_eq_getElem h, List.getD_eq_getElem?_getD, List.getElem?_eq_getElem h]
  rfl
theorem io_ne {io : Option Nat} {i n : Nat} (h : (!(io == some i) && decide (i < n)) = true) : io ≠ some i ∧ i < n := by
  rw [Bool.and_eq_true] at h
  refine ⟨fun z => ?_, of_decide_eq_true h.2⟩
  have := h.1
  rw [z] at this
  simp at this
theorem seto_read {i : Nat} {ev : Ev} : ∀ (D : Ends) (σ : L2.St) (H : Hp), tSX X S Fb Hb oa W (fun σ => (ev.v σ).bind fun q => (nmoTg S.io i q.1 q.2).bind fun σ => .ok (.nx, σ)) D σ H → tV X.K S.io W ev.v σ H fun x H1 => gName i x σ H1 D.nx := fun D σ H ⟨F, en, fi, h⟩ =>
  ⟨F, en, fi.sl, fi.seq h (fun _ _ h => h) fun r F1 H1 en1 st fi1 hs h v hv => by
    obtain ⟨hb, h⟩ := h.needB
    obtain ⟨b1, b2⟩ := io_ne hb
    cases r with
    | val d => exact h.done _ F1 H1 (fi1.put b2 b1 hv) hs
    | own ds =>
      obtain ⟨a, xs, rfl, h1, h2, h3, h4, h5⟩ := hv
      exact h.done _ F1 H1 (fi1.putOwn b2 b1 h1 h2 h3 h4 (fi.own_new fi1 h4 h5)) hs⟩
theorem set_read {i : Nat} {ev : Ev} : ∀ (D : Ends) (σ : L2.St) (H : Hp), tSX X S Fb Hb oa W (fun σ => (ev.v σ).bind fun q => (nmTg S.io i q.1 q.2).bind fun σ => .ok (.nx, σ)) D σ H → tV X.K S.io W ev.v σ H fun x H1 => gName i x σ H1 D.nx := fun D σ H ⟨F, en, fi, h⟩ =>
  ⟨F, en, fi.sl, fi.seq h (fun _ _ h => h) fun r F1 H1 en1 st fi1 hs h v hv => by
    obtain ⟨hb, h⟩ := h.needB
    obtain ⟨b1, b2⟩ := io_ne hb
    refine ContV.of (K := X.K) (io := S.io) (σ := σ) (F := F) (H := H) (en := en) (en1 := en1) (Q := fun x H1 => gName i x σ H1 D.nx) (fun F' H' v s hv => ?_) F1 H1 v st hv
    exact h.done _ F' H' ((fi.step s).put b2 b1 hv) s.mono⟩
theorem swaps_comp {p q : Pos} {own : List (Str × Nat)} {sc' : Scope} {elt cnd : E} {tg : Tg} {it : It} {x : Str} {l : Nat} {env : Env} :
    swapsWith (astE nm (.comp p own sc' elt tg it cnd)) (some (.Name x q)) l env = pure (env.blockKind == .function && env.kindOf x == some .local && q.line == p.line && !(sc'.names.any fun (n, k) => n == x && (k == .local || k == .cell))) := rfl
/-- a name's store, by the reading of its value -/
theorem ps_setN (C : Cs X n W wh nm S) {p q : Pos} {i : Nat} {e : E} {g : En → R (Fl × En)} (hg : ∀ D σ H, tSX X S Fb Hb oa W g D σ H → tV X.K S.io W (evE S e).v σ H fun x H1 => gName i x σ H1 D.nx)
    (h1 : chE nm wh X.env.scope e = true) (h2 : nmB nm X.env.scope i = true) (h3 : (isCompE e || !isComp e) = true) : PS X (.Assign [.Name (nm.slot i) q] (astE nm e) p) (tSX X S Fb Hb oa W g) := by
  obtain ⟨g1, g2⟩ := and2 h2
  have hN := name_of C (of_decide_eq_true g1)
  have hl := loc_of C g2
  have ih := snd_e e C.toCz h1
  have plain : ∀ {l}, swapsWith (astE nm e) (some (.Name (nm.slot i) q)) l X.env = pure false → l = p.line → PS X (.Assign [.Name (nm.slot i) q] (astE nm e) p) (tSX X S Fb Hb oa W g) := fun {l} hs el => by
    subst el
    exact PSimp (ps_set C.nd hN hl.1 ih.v hs hl.2) hg
  cases hc : isComp e with
  | false => exact plain (noSwap e hc) rfl
  | true =>
    rw [hc] at h3
    cases e with
    | comp p' own sc' elt tg it cnd =>
      have sw := swaps_comp (nm := nm) (p := p') (q := q) (own := own) (sc' := sc') (elt := elt) (cnd := cnd) (tg := tg) (it := it) (x := nm.slot i) (l := p.line) (env := X.env)
      cases hb : (X.env.blockKind == .function && X.env.kindOf (nm.slot i) == some .local && q.line == p'.line && !(sc'.names.any fun (n, k) => n == nm.slot i && (k == .local || k == .cell))) with
      | false =>
        rw [hb] at sw
        exact plain sw rfl
      | true =>
        rw [hb] at sw
        simp only [Bool.and_eq_true] at hb
        have hy : X.env.scope.names.lookup (nm.slot i) = some .local := by
          have z := hb.1.1.2
          have z : X.env.kindOf (nm.slot i) = some .local := by simpa using z
          exact z
        have hc : (blkC nm.N X.env.scope sc' own && (chIt nm wh X.env.scope it && (chTg nm wh (some (own.map (·.2))) sc' tg && (itTg it tg && (lkB (own.map (·.2)) it && (chE nm wh (relS sc' X.env.scope) cnd && chE nm wh (relS sc' X.env.scope) elt)))))) = true := h1
        simp only [Bool.and_eq_true] at hc
        obtain ⟨k1, k2, k3, k4, k5, k6, k7⟩ := hc
        rw [← C.N] at k1
        refine PSimp (ps_setLc (te := tD X.K S.io W0 (evE S elt).d) (tt := tT X.K S.io W0 (evE S cnd).c) (g := tTg X.K S.io (fun i => inB (some (own.map (·.2))) i = true) (evTg S tg)) C.gd.calm C.nd hN hy sw (pi_it C.toCz k2 k4 (snd_it it C.toCz k2)) (blkOk_by k1) (fun s H Ca cl fp => pg_tg (C.toCz.blk s H sc' Ca cl fp) (fun x hx => loc_blk hx) k3) (fun s H Ca cl fp => (snd_e cnd (C.toCz.blk s H sc' Ca cl fp) k6).c) (fun s H Ca cl fp => pe_dat (snd_e elt (C.toCz.blk s H sc' Ca cl fp) k7).v) fun _ => noSetIt it) fun D σ H h => ?_
        exact comp_read k5 σ H _ (hg D σ H h)
    | _ => cases h3
theorem ps_setD (C : Cs X n W wh nm S) {p q : Pos} {i : Nat} {e : E} (h1 : chE nm wh X.env.scope e = true) (h2 : nmB nm X.env.scope i = true) (h3 : (isCompE e || !isComp e) = true) : PS X (.Assign [.Name (nm.slot i) q] (astE nm e) p) (tSX X S Fb Hb oa W (evS S (.set p (.nm q i) e))) := ps_setN C set_read h1 h2 h3
theorem ps_setO (C : Cs X n W wh nm S) {p q : Pos} {i : Nat} {e : E} (h1 : chE nm wh X.env.scope e = true) (h2 : nmB nm X.env.scope i = true) (h3 : (isCompE e || !isComp e) = true) : PS X (.Assign [.Name (nm.slot i) q] (astE nm e) p) (tSX X S Fb Hb oa W (evS S (.set p (.nmo q i) e))) := ps_setN C seto_read h1 h2 h3
theorem noSwapSole {t : Expr} {l : Nat} {env : Env} {e : E} (h : isComp e = false) : swapsWithSole [t] (astE nm e) l env = pure false := by
  unfold swapsWithSole
  exact noSwap e h
theorem sw_none {ts : List Expr} {k : Nat} {p : Pos} : ∀ {e : E}, isTupX e = false → swappedStores [.Tuple ts k p] (astE nm e) X.env = pure none
  | .tmp e, h => sw_none (e := e) h
  | .tup .., h => by cases h
  | .var .., _ | .frz .., _ | .mv .., _ | .pk .., _ | .int .., _ | .bl .., _ | .non .., _ | .str .., _ | .glob .., _ | .lst .., _ | .bin .., _ | .cmp .., _ | .cmp2 .., _ | .neg .., _ | .not .., _ | .and .., _ | .or .., _ | .ite .., _ | .ix .., _ | .sl .., _ | .no, _ | .bi .., _ | .isi .., _ | .call .., _ | .callk .., _ | .comp .., _ => by
    simp only [astE] <;> rfl
  | .ext x as, _ => by
    simp only [astE]
    cases x <;> rfl
theorem assign_ok {o : Expr} {pos : Pos} {env : Env} : ∀ (x : E) (v : Value), assign (.Subscript o (astE nm x) pos) env v = (do
      let ov ← holding [v] (eval o env)
      let iv ← holding [v, ov] (eval (astE nm x) env)
      standAt pos
      holding [v, ov, iv] (setItem ov iv v)
      release [v, ov, iv] [])
  | .tmp e, v => assign_ok e v
  | .var .., _ | .frz .., _ | .mv .., _ | .pk .., _ | .int .., _ | .bl .., _ | .non .., _ | .str .., _ | .glob .., _ | .tup .., _ | .lst .., _ | .bin .., _ | .cmp .., _ | .cmp2 .., _ | .neg .., _ | .not .., _ | .and .., _ | .or .., _ | .ite .., _ | .ix .., _ | .sl .., _ | .no, _ | .bi .., _ | .isi .., _ | .call .., _ | .callk .., _ | .comp .., _ => by
    simp only [astE] <;> rfl
  | .ext x as, _ => by
    simp only [astE]
    cases x <;> rfl
def tTF (X : Cx) (S : Sc) (Fb Hb : Hp) (oa : Option Addr) (f : Rv → En → R En) : TG := fun v σ H Q => ∃ F en d, Fi X.K S.io Fb Hb oa σ F H en ∧ Rp X.K F v d ∧ ∃ en', f (.val d) en = .ok en' ∧ ∀ σ' F' H', Fi X.K S.io Fb Hb oa σ' F' H' en' → Sub F F' → Q σ' H'
def tTFs (X : Cx) (S : Sc) (Fb Hb : Hp) (oa : Option Addr) (f : List D → En → R En) : TGs := fun vs σ H Q => ∃ F en ds, Fi X.K S.io Fb Hb oa σ F H en ∧ RpAll X.K F vs ds ∧ ∃ en', f ds en = .ok en' ∧ ∀ σ' F' H', Fi X.K S.io Fb Hb oa σ' F' H' en' → Sub F F' → Q σ' H'
mutual
theorem pg_tF (C : Cs X n W wh nm S) : ∀ {t : Tg}, chTF nm wh X.env.scope t = true → PG X (astTg nm t) (tTF X S Fb Hb oa (evTg S t))
  | .nm p i, h => by
    obtain ⟨g1, g2⟩ := and2 h
    have hl := loc_of C g2
    refine PGimp (pg_name C.nd (name_of C (of_decide_eq_true g1)) hl.1 hl.2) fun v σ H Q ⟨F, en, d, fi, r, en', e, q⟩ => ?_
    have e : Res.need (!(S.io == some i) && decide (i < en.length)) (.ok (en.set i (.val d))) = .ok en' := e
    cases hb : !(S.io == some i) && decide (i < en.length) with
    | false => rw [hb] at e; cases e
    | true =>
      rw [hb] at e
      cases e
      obtain ⟨b1, b2⟩ := io_ne hb
      exact q _ F H (fi.put b2 b1 r) fun _ _ h => h
  | .nmo .., h => by cases h
  | .tup p k ts, h => by
    refine PGimp (pg_tup (n := ts.len) C.gd.calm (pgs_tF C h) (eachs_len ts) (eachs_star ts)) fun v σ H Q ⟨F, en, d, fi, r, en', e, q⟩ => ?_
    have e : tupTg (evTgs S ts) (.val d) en = .ok en' := e
    unfold tupTg at e
    split at e
    · rename_i ds hd
      cases hd
      obtain ⟨a, xs, rfl, h1, h2⟩ := r.tupleAt
      exact ⟨a, xs, rfl, Sub.seqT fi.sl.sub h1, by rw [h2.length]; exact evTgs_len e, F, en, ds, fi, h2, en', e, q⟩
    · cases e
  | .sub p pn i x, h => by
    obtain ⟨h2, h3⟩ := and2 h
    have hg : PG X (.Subscript (.Name (nm.slot i) pn) (astE nm x) p) (gSub (tVar i) (tV X.K S.io W (evE S x).v) rSetL) := pg_sub (pe_slot C.toCz h2) (snd_e x C.toCz h3).v set_list (assign_ok x)
    refine PGimp hg fun v σ H Q ⟨F, en, d, fi, r, en', e, q⟩ => ?_
    have e : subTg i (evE S x) (.val d) en = .ok en' := e
    unfold subTg at e
    obtain ⟨⟨av, en1⟩, q0, e⟩ := Res.bind_inv e
    obtain ⟨⟨rk, en2⟩, q1, e⟩ := Res.bind_inv e
    have q1 := noEx_ok q1
    unfold pkAt at q0
    split at q0
    · rename_i ds0 hq
      cases q0
      obtain ⟨a, xs0, g1, _⟩ := fi.sl.own i ds0 hq
      refine ⟨.ref a, g1, F, en, fi.sl, ?_⟩
      have q1 : (evE S x).v en = .ok (rk, en2) := q1
      rw [q1]
      intro F2 H2 st2 w hw
      have st2 : Stp X.K S.io σ F H en F2 H2 en2 := st2
      have fi2 := fi.step st2
      cases rk with
      | own _ => cases e
      | val dk =>
        cases dk with
        | int k =>
          cases hw
          simp only at e
          cases q2 : en2[i]? with
          | none => rw [q2] at e; cases e
          | some sv =>
            rw [q2] at e
            cases sv with
            | own ds =>
              simp only at e
              obtain ⟨a', xs, w1, w2, w3, w4⟩ := fi2.sl.own i ds q2
              rw [g1] at w1
              cases w1
              cases q3 : ixN ds.length k with
              | none => rw [q3] at e; cases e
              | some j =>
                rw [q3] at e
                cases e
                exact ⟨a, xs, k, j, rfl, rfl, w2, by rw [w4.length]; exact q3, q σ F2 _ (fi2.write g1 q2 (w4.set (r.mono st2.mono) j)) st2.mono⟩
            | _ => cases e
        | _ => cases e
    · cases q0
theorem pgs_tF (C : Cs X n W wh nm S) : ∀ {ts : Tgs}, chTFs nm wh X.env.scope ts = true → PGs X (astTgs nm ts) (tTFs X S Fb Hb oa (evTgs S ts))
  | .nil, _ => PGsimp pgs_nil fun vs σ H Q ⟨F, en, ds, fi, r, en', e, q⟩ => by
    obtain ⟨rfl, rfl⟩ := evTgs_nil e
    cases r
    exact ⟨rfl, q _ F H fi fun _ _ h => h⟩
  | .cons t ts, h => by
    obtain ⟨h1, h2⟩ := and2 h
    refine PGsimp (pgs_cons (pg_tF C h1) (pgs_tF C h2) (by rw [each_ok]; rfl)) fun vs σ H Q ⟨F, en, ds, fi, r, en', e, q⟩ => ?_
    obtain ⟨d, ds, en1, rfl, q1, e⟩ := evTgs_cons e
    cases r with
    | cons r rr => exact ⟨_, _, rfl, F, en, d, fi, r, en1, q1, fun σ1 F1 H1 fi1 s1 => ⟨F1, en1, ds, fi1, rr.mono s1, en', e, fun σ2 F2 H2 fi2 s2 => q σ2 F2 H2 fi2 (s1.trans s2)⟩⟩
end
/-- a tuple's or an item's store -/
theorem ps_setF (C : Cs X n W wh nm S) {p : Pos} {t : Tg} {e : E} (h1 : chE nm wh X.env.scope e = true) (h2 : chTF nm wh X.env.scope t = true) (h3 : isComp e = false) (ht : ∀ r en, evTg S t r en = .bad ∨ evTg S t r en = evTg S t (.val r.d) en) (hw : swappedStores [astTg nm t] (astE nm e) X.env = pure none) : PS X (.Assign [astTg nm t] (astE nm e) p) (tSX X S Fb Hb oa W (evS S (.set p t e))) := by
  refine PSimp (ps_asg (pe_dat (snd_e e C.toCz h1).v) (pg_tF (Fb := Fb) (Hb := Hb) (oa := oa) C h2) (noSwapSole h3) hw (by rw [each_ok]; rfl)) fun D σ H ⟨F, en, fi, h⟩ => ⟨F, en, fi.sl, fi.seqD h (fun _ _ h => h) fun r F1 H1 en1 st fi1 hs h v hv => ?_⟩
  have h : Gs X.K S.io Fb Hb oa W D F ((evTg S t r en1).bind fun σ => .ok (.nx, σ)) := h
  rcases ht r en1 with z | z
  · rw [z] at h
    exact h.elim
  · rw [z] at h
    cases q1 : evTg S t (.val r.d) en1 with
    | bad => rw [q1] at h; exact h.elim
    | ex x e' => exact absurd q1 tg_noEx
    | ok en' =>
      rw [q1] at h
      exact ⟨F1, en1, r.d, fi1, hv, en', q1, fun σ' F' H' fi' s' => h.done σ' F' H' fi' (hs.trans s')⟩
theorem tup_dat {p : Pos} {k : Nat} {ts : Tgs} (r : Rv) (en : En) : evTg S (.tup p k ts) r en = .bad ∨ evTg S (.tup p k ts) r en = evTg S (.tup p k ts) (.val r.d) en := by
  cases r with
  | val d => exact .inr rfl
  | own ds => exact .inl rfl
theorem sub_dat {p pn : Pos} {i : Nat} {x : E} (r : Rv) (en : En) : evTg S (.sub p pn i x) r en = .bad ∨ evTg S (.sub p pn i x) r en = evTg S (.sub p pn i x) (.val r.d) en := .inr rfl
theorem ps_exD (C : Cs X n W wh nm S) {p : Pos} {e : E} (h1 : chE nm wh X.env.scope e = true) (h2 : isComp e = false) : PS X (.Expr (astE nm e) p) (tSX X S Fb Hb oa W (evS S (.ex p e))) :=
  PSimp (ps_expr (snd_e e C.toCz h1).v (noSwap e h2)) fun D σ H ⟨F, en, fi, h⟩ => ⟨F, en, fi.sl, fi.seq h (fun _ _ h => h) fun r F1 H1 en1 st fi1 hs h v hv => h.done σ F1 H1 fi1 hs⟩
theorem ps_appD (C : Cs X n W wh nm S) {p pc pa pn : Pos} {i : Nat} {e : E} (h1 : slotB nm X.env.scope i = true) (h2 : chE nm wh X.env.scope e = true) (h3 : (pa.endLine == pc.line) = true) : PS X (.Expr (.Call (.Attribute (.Name (nm.slot i) pn) "append" pa) [astE nm e] [] pc) p) (tSX X S Fb Hb oa W (evS S (.app p pc pa pn i e))) := by
  have hs1 : starEach [astE nm e] X.env = [(false, eval (astE nm e) X.env)] := star1
  refine PSimp (ps_expr (pe_bm PySem.F.plainAttrs_list PySem.F.slot_list_append PySem.F.type_list_append mt_append (pe_slot C.toCz h1) (pa_cons (pe_dat (snd_e e C.toCz h2).v) pa_nil (star_ok e)) rfl (by rw [hs1]; rfl) h3 (star_ok e) rfl)) fun D σ H ⟨F, en, fi, h⟩ => ?_
  have h : Gs X.K S.io Fb Hb oa W D F ((pkAt i en).bind fun p => ((evE S e).d p.2).bind fun q => match q.2[i]? with
    | some (.own ds) => .need (okLen (ds.length + 1)) (.ok (.nx, q.2.set i (.own (ds ++ [q.1]))))
    | _ => .bad) := h
  cases q0 : pkAt i en with
  | bad => rw [q0] at h; exact h.elim
  | ex x' e' =>
    unfold pkAt at q0
    split at q0 <;> cases q0
  | ok z =>
    obtain ⟨av, en1'⟩ := z
    rw [q0] at h
    unfold pkAt at q0
    split at q0
    · rename_i ds0 q1
      cases q0
      obtain ⟨a, xs0, g1, g2, _⟩ := fi.sl.own i ds0 q1
      refine ⟨.ref a, g1, .inl ⟨rfl, xs0, SqL.of g2⟩, F, en, fi.sl, fi.seq h (fun _ _ h => h) fun d F1 H1 en1 st fi1 hs h v hv => ?_⟩
      simp only at h
      cases q2 : en1[i]? with
      | none => rw [q2] at h; exact h.elim
      | some sv =>
        rw [q2] at h
        cases sv with
        | own ds =>
          simp only at h
          obtain ⟨hz, h⟩ := h.need
          have hz := okLen_le hz
          obtain ⟨a', xs, w1, w2, w3, w4⟩ := fi1.sl.own i ds q2
          rw [g1] at w1
          cases w1
          have hxl := w4.length
          exact ⟨a, xs, v, rfl, rfl, w2, by omega, h.done σ F1 _ (fi1.write g1 q2 (w4.append (.cons hv .nil))) hs⟩
        | _ => exact h.elim
    · cases q0
theorem ps_retD (C : Cs X n W wh nm S) {p : Pos} {e : E} (h1 : chE nm wh X.env.scope e = true) : PS X (.Return (some (astE nm e)) p) (tSX X S Fb Hb oa W (evS S (.ret p e))) :=
  PSimp (ps_ret (snd_e e C.toCz h1).v) fun D σ H ⟨F, en, fi, h⟩ => ⟨F, en, fi.sl, fi.seq h (fun _ _ h => h) fun r F1 H1 en1 st fi1 hs h v hv => h.done σ F1 H1 fi1 hs v (fi.rv fi1 hv)⟩
theorem ps_ifD (C : Cs X n W wh nm S) {p : Pos} {c : E} {a b : Sms} (h1 : chE nm wh X.env.scope c = true) (ha : PSs X (astSs nm a) (tSX X S Fb Hb oa W (evSs S a))) (hb : PSs X (astSs nm b) (tSX X S Fb Hb oa W (evSs S b))) : PS X (.If (astE nm c) (astSs nm a) (astSs nm b) p) (tSX X S Fb Hb oa W (evS S (.ifs p c a b))) :=
  PSimp (ps_if (snd_e c C.toCz h1).t ha hb) fun D σ H ⟨F, en, fi, h⟩ => ⟨F, en, fi.sl, fi.seq h (fun _ _ h => h) fun b F1 H1 en1 st fi1 hs h => by
    cases b with
    | true => exact iteT ⟨F1, en1, fi1, Gs.base h hs⟩
    | false => exact iteF ⟨F1, en1, fi1, Gs.base h hs⟩⟩
theorem ps_whlD (C : Cs X n W wh nm S) {p : Pos} {c : E} {b : Sms} (h1 : chE nm wh X.env.scope c = true) (hb : PSs X (astSs nm b) (tSX X S Fb Hb oa W (evSs S b))) : PS X (.While (astE nm c) (astSs nm b) [] p) (tSX X S Fb Hb oa W (evS S (.whl p c b))) :=
  PSimp (ps_while C.pass (snd_e c C.toCz h1).t hb) fun D σ H ⟨F, en, fi, h⟩ => by
    have h : Gs X.K S.io Fb Hb oa W D F (whileD (evE S c).t (evSs S b) en) := h
    have hne : whileD (evE S c).t (evSs S b) en ≠ .bad := fun z => by rw [z] at h; exact h.elim
    obtain ⟨m0, em⟩ := whileD_get hne
    rw [em] at h
    refine ⟨fun m σ H => ∃ F1 en1, Fi X.K S.io Fb Hb oa σ F1 H en1 ∧ Sub F F1 ∧ Gs X.K S.io Fb Hb oa W D F (whileN (evE S c).t (evSs S b) m en1), ⟨m0, F, en, fi, fun _ _ h => h, h⟩, ?_⟩
    rintro m σ H ⟨F1, en1, fi1, hs1, h⟩
    cases m with
    | zero => exact h.elim
    | succ m =>
      refine ⟨F1, en1, fi1.sl, fi1.seq h hs1 fun t F2 H2 en2 st fi2 hs2 h => ?_⟩
      cases t with
      | false => exact iteF (h.done σ F2 H2 fi2 hs2)
      | true =>
        refine iteT ⟨fun σ H => ∃ F1 en1, Fi X.K S.io Fb Hb oa σ F1 H en1 ∧ Sub F F1 ∧ Gs X.K S.io Fb Hb oa W D F (whileN (evE S c).t (evSs S b) m en1), fun σ' H' w => ⟨m, Nat.lt_succ_self m, w⟩, F2, en2, fi2, ?_⟩
        have h : Gs X.K S.io Fb Hb oa W D F ((evSs S b en2).bind fun z => match z.1 with
          | .nx => whileN (evE S c).t (evSs S b) m z.2
          | .cnt => whileN (evE S c).t (evSs S b) m z.2
          | .brk => .ok (.nx, z.2)
          | .ret v => .ok (.ret v, z.2)) := h
        refine Gs.imp h hs2 fun q σ3 F3 H3 fi3 hs3 h => ?_
        obtain ⟨fl, en3⟩ := q
        cases fl with
        | nx => exact ⟨F3, en3, fi3, hs2.trans hs3, h⟩
        | cnt => exact ⟨F3, en3, fi3, hs2.trans hs3, h⟩
        | brk => exact h.done σ3 F3 H3 fi3 (hs2.trans hs3)
        | ret r => exact h.done σ3 F3 H3 fi3 (hs2.trans hs3)
theorem ps_forD (C : Cs X n W wh nm S) {p : Pos} {t : Tg} {it : It} {b : Sms} (h1 : chIt nm wh X.env.scope it = true) (h2 : chTg nm wh none X.env.scope t = true) (h3 : itTg it t = true) (h4 : noPk it = true) (hb : PSs X (astSs nm b) (tSX X S Fb Hb oa W (evSs S b))) : PS X (.For (astTg nm t) (astIt nm it) (astSs nm b) [] p) (tSX X S Fb Hb oa W (evS S (.fors p t it b))) := by
  refine PSimp (ps_for C.pass C.gd.calm (pi_it C.toCz h1 h3 (snd_it it C.toCz h1)) (pg_tg C.toCz (fun x hx => loc_of C hx) h2) hb fun _ => noSetIt it) fun D σ H ⟨F, en, fi, h⟩ => ?_
  have h : Gs X.K S.io Fb Hb oa W D F ((evIt S it en).bind fun q => forD (fun d σ => (evTg S t (.val d) σ).bind (evSs S b)) q.1 q.1.1 q.2) := h
  refine ⟨F, en, fi.sl, ?_⟩
  cases qi : evIt S it en with
  | bad => rw [qi] at h; exact h.elim
  | ex x e =>
    rw [qi] at h
    exact fun F' H' cls dd s z => h σ F' H' cls dd (fi.step s) s.mono z
  | ok z =>
    obtain ⟨src, en1⟩ := z
    have hsrc := it_noPk qi h4
    rw [qi] at h
    intro F1 H1 st J oa' hoa wk
    have st : Stp X.K S.io σ F H en F1 H1 en1 := st
    have fi1 := fi.step st
    have h : Gs X.K S.io Fb Hb oa W D F (forD (fun d σ => (evTg S t (.val d) σ).bind (evSs S b)) src src.1 en1) := h
    have noa : oa' = none := by
      cases oa' with
      | none => rfl
      | some a =>
        obtain ⟨i, hi, _⟩ := hoa a rfl
        have hi : src.2 = some i := hi
        rw [hsrc] at hi
        cases hi
    subst noa
    have lk : ∀ {F H}, LkAt X.K F H none src.1 := fun {F H} a e => nomatch e
    refine for_it wk (fun i σ H => ∃ F2 en2, Fi X.K S.io Fb Hb oa σ F2 H en2 ∧ Sub F1 F2 ∧ Gs X.K S.io Fb Hb oa W D F (forD (fun d σ => (evTg S t (.val d) σ).bind (evSs S b)) src (src.1.drop i) en2)) ?_ ?_ ?_ ?_
    · exact ⟨F1, en1, fi1, fun _ _ h => h, h⟩
    · rintro i σ H hi ⟨F2, en2, fi2, hs2, h⟩
      exact ⟨F2, hs2, fi2.sl.sub, lk⟩
    · rintro i x σ H2 H3 hi ⟨F2, en2, fi2, hs2, h⟩ y
      obtain ⟨d, hd, yo⟩ := y F2 hs2 fi2.sl.sub lk
      obtain ⟨hlt, hd⟩ := List.getElem?_eq_some_iff.mp hd
      rw [List.drop_eq_getElem_cons hlt, hd] at h
      unfold forD at h
      split at h
      · obtain ⟨F3, st3, rx⟩ := yld_step (io := S.io) fi2.sl yo
        have fi3 := fi2.step st3
        rw [Res.bind_assoc] at h
        cases qt : evTg S t (.val d) en2 with
        | bad => rw [qt] at h; exact h.elim
        | ex x' e' => exact absurd qt tg_noEx
        | ok en' =>
          rw [qt] at h
          refine ⟨F3, en2, d, fi3.sl, rx, en', qt, fun σ' sl' tk => ⟨F3, en', fi3.tg sl' tk, ?_⟩⟩
          have hs3 : Sub F F3 := (st.mono.trans hs2).trans st3.mono
          refine Gs.imp h hs3 fun q σ4 F4 H4 fi4 hs4 h => ?_
          obtain ⟨fl, en4⟩ := q
          cases fl with
          | nx => exact ⟨F4, en4, fi4, (hs2.trans st3.mono).trans hs4, h⟩
          | cnt => exact ⟨F4, en4, fi4, (hs2.trans st3.mono).trans hs4, h⟩
          | brk => exact h.done σ4 F4 H4 fi4 (hs3.trans hs4)
          | ret r => exact h.done σ4 F4 H4 fi4 (hs3.trans hs4)
      · exact h.elim
    · rintro σ H2 ⟨F2, en2, fi2, hs2, h⟩
      have hl : src.1.drop (src, en1).1.1.length = [] := List.drop_length
      rw [hl] at h
      unfold forD at h
      split at h
      · exact h.done σ F2 H2 fi2 (st.mono.trans hs2)
      · exact h.elim
theorem ps_nx {s : Stmt} {f : Fl} {g : En → R (Fl × En)} {t : TS} (h : PS X s t) (hg : ∀ en, g en = .ok (f, en)) (ht : ∀ D σ F H, EndsOk X.K Hb D σ F H f → t D σ H) : PS X s (tSX X S Fb Hb oa W g) :=
  PSimp h fun D σ H ⟨F, en, fi, h⟩ => by
    rw [hg] at h
    exact ht D σ F H (h.done σ F H fi fun _ _ h => h)
end
end Mp

end

section
namespace Mp
open PySem PySem.Spec PyProof.Rows L2

/-! ### except suites -/
section
variable {X : Cx} {n : Nat} {W : WX} {wh : Wh} {nm : Nm} {S : Sc} {Fb Hb : Hp} {oa : Option Addr}
theorem plainAt_of {io : Option Nat} {en : En} {i : Nat} (h : plainAt io en i = true) : io ≠ some i ∧ i < en.length ∧ ∀ ds, en[i]? ≠ some (.own ds) := by
  unfold plainAt at h
  obtain ⟨h1, h2⟩ := and2 h
  refine ⟨fun z => by rw [z] at h1; simp at h1, ?_, fun ds z => by rw [z] at h2; cases h2⟩
  cases q : en[i]? with
  | none => rw [q] at h2; cases h2
  | some s => exact (List.getElem?_eq_some_iff.mp q).1
theorem Fi.poke {K : PySem.W.Frag} {io : Option Nat} {σ : L2.St} {F H : Hp} {en : En} (fi : Fi K io Fb Hb oa σ F H en) {i : Nat} (h : plainAt io en i = true) (v : Option V) : Fi K io Fb Hb oa (σ.set i v) F H (en.set i .un) := by
  obtain ⟨h1, h2, h3⟩ := plainAt_of h
  have ne : ∀ {j : Nat} {s : Sv}, s ≠ .un → (en.set i .un)[j]? = some s → j ≠ i ∧ en[j]? = some s := fun {j s} hs e => by
    by_cases z : j = i
    · subst z
      rw [List.getElem?_set_self h2] at e
      exact absurd (Option.some.inj e).symm hs
    · rw [List.getElem?_set_ne (Ne.symm z)] at e
      exact ⟨z, e⟩
  have sl := fi.sl
  refine ⟨⟨by rw [List.length_set, List.length_set]; exact sl.len, sl.sub, fun j d e => ?_, fun j ds e => ?_, fun j k ds es a e1 e2 e3 e4 => ?_⟩, fi.mono, fi.new, fi.keep, fun j ds a e1 e2 => ?_, fun a e => ?_⟩
  · obtain ⟨z, e⟩ := ne (fun z => by cases z) e
    rw [List.getElem?_set_ne (Ne.symm z)]
    exact sl.val j d e
  · obtain ⟨z, e⟩ := ne (fun z => by cases z) e
    rw [List.getElem?_set_ne (Ne.symm z)]
    exact sl.own j ds e
  · obtain ⟨z1, e1⟩ := ne (fun z => by cases z) e1
    obtain ⟨z2, e2⟩ := ne (fun z => by cases z) e2
    rw [List.getElem?_set_ne (Ne.symm z1)] at e3
    rw [List.getElem?_set_ne (Ne.symm z2)] at e4
    exact sl.ap j k ds es a e1 e2 e3 e4
  · obtain ⟨z1, e1⟩ := ne (fun z => by cases z) e1
    rw [List.getElem?_set_ne (Ne.symm z1)] at e2
    exact fi.own j ds a e1 e2
  · obtain ⟨p, ds, e1, e2, e3⟩ := fi.io a e
    have z : p ≠ i := fun z => h1 (by rw [← z]; exact e1)
    exact ⟨p, ds, e1, by rw [List.getElem?_set_ne (Ne.symm z)]; exact e2, by rw [List.getElem?_set_ne (Ne.symm z)]; exact e3⟩
theorem ExAt.later {K : PySem.W.Frag} {io : Option Nat} {σ : L2.St} {F H F1 H1 : Hp} {en en1 : En} {x : Exc} {cls : Value} {d : Option Addr} (h : ExAt K F H x cls d) (hn : x.arg = none) (st : Stp K io σ F H en F1 H1 en1) : ExAt K F1 H1 x cls d := by
  obtain ⟨h1, h2⟩ := h
  rw [hn] at h2
  refine ⟨h1, ?_⟩
  rw [hn]
  exact h2
/-- what a suite's expression asks: slot i holds the error at a -/
def tXE (X : Cx) (S : Sc) (a : Addr) (i : Nat) (cls : Value) (d : Option Addr) (g : Exc → En → Option D) : TE := fun σ H Q => ∃ F en x dat, Sl X.K F H en σ ∧ σ[i]? = some (some (.ref a)) ∧ ExAt X.K F H x cls d ∧ x.arg = none ∧ g x en = some dat ∧
  ∀ F' H' v, Stp X.K S.io σ F H en F' H' en → Rp X.K F' v dat → Q v H'
def tXEs (X : Cx) (S : Sc) (a : Addr) (i : Nat) (cls : Value) (d : Option Addr) (g : Exc → En → Option (List D)) : TA := fun σ H Q => ∃ F en x ds, Sl X.K F H en σ ∧ σ[i]? = some (some (.ref a)) ∧ ExAt X.K F H x cls d ∧ x.arg = none ∧ g x en = some ds ∧
  ∀ F' H' vs, Stp X.K S.io σ F H en F' H' en → RpAll X.K F' vs ds → Q vs H'
theorem xe_star {env : Env} {i : Nat} {es : List Expr} : ∀ x : XE, starEach (XE.ast nm i x :: es) env = (false, eval (XE.ast nm i x) env) :: starEach es env
  | .str .. => by simp only [XE.ast] <;> rfl
  | .var .. => by simp only [XE.ast] <;> rfl
  | .fld .. => by simp only [XE.ast] <;> rfl
  | .isi .. => by simp only [XE.ast] <;> rfl
  | .and .. => by simp only [XE.ast] <;> rfl
  | .lst .. => by simp only [XE.ast] <;> rfl
  | .tup .. => by simp only [XE.ast] <;> rfl
theorem xe_swap {t : Option Expr} {l : Nat} {env : Env} {i : Nat} : ∀ x : XE, swapsWith (XE.ast nm i x) t l env = pure false
  | .str .. => by simp only [XE.ast] <;> rfl
  | .var .. => by simp only [XE.ast] <;> rfl
  | .fld .. => by simp only [XE.ast] <;> rfl
  | .isi .. => by simp only [XE.ast] <;> rfl
  | .and .. => by simp only [XE.ast] <;> rfl
  | .lst .. => by simp only [XE.ast] <;> rfl
  | .tup .. => by simp only [XE.ast] <;> rfl
theorem ans_in {c : Str} {ans : List (Str × Bool)} (h : ansB wh c ans = true) {c1 : Str} {b : Bool} (e : ans.lookup c1 = some b) : (c1, c, b) ∈ wh.cl ∧ c1 ∈ wh.ks := by
  have hm : (c1, b) ∈ ans := PySem.mem_of_lookup e
  obtain ⟨h1, h2⟩ := and2 (List.all_eq_true.mp h _ hm)
  exact ⟨by simpa using h1, by simpa using h2⟩
mutual
theorem pe_xe (C : Cs X n W wh nm S) {a : Addr} {i : Nat} {cls : Value} {d : Option Addr} {oe : Obj} {pn : List (Addr × Obj)} (hi : slotB nm X.env.scope i = true) (hz : Zc cls d oe) (hf : ∃ vs, oe.data = .fields vs) :
    ∀ e : XE, chX nm wh X.env.scope i e = true → PE (X.suite a ((a, oe) :: pn)) (XE.ast nm i e) (tXE X S a i cls d (fun x en => evX x en e))
  | .str p k s, _ => by
    refine PEimp pe_str fun σ H Q ⟨F, en, x, dat, sl, _, _, _, e, h⟩ => ?_
    have e : some (PyData.str s) = some dat := e
    cases e
    exact h F H _ (Stp.refl sl) (.str s)
  | .var p j, hc => by
    obtain ⟨h1, _⟩ := and2 hc
    obtain ⟨g1, g2⟩ := slot_of C.toCz h1
    refine PEimp (pe_var (X := X.suite a ((a, oe) :: pn)) g1 (vis_of g2) (dbg_of (visDbg g2)).1 (dbg_of (visDbg g2)).2) fun σ H Q ⟨F, en, x, dat, sl, _, _, _, e, h⟩ => ?_
    have e : (match en[j]? with
      | some (.val d) => some d
      | _ => none) = some dat := e
    split at e
    · rename_i dd q
      cases e
      obtain ⟨v, e1, r⟩ := sl.val j _ q
      exact ⟨v, e1, h F H v (Stp.refl sl) r⟩
    · cases e
  | .fld .., hc => by cases hc
  | .isi p pf pn' pc c ans, hc => by
    obtain ⟨h1, h2⟩ := and2 hc
    obtain ⟨h2, h3⟩ := and2 h2
    obtain ⟨h3, h4⟩ := and2 h3
    obtain ⟨h4, h5⟩ := and2 h4
    obtain ⟨g1, g2⟩ := gl_of h1
    obtain ⟨c1, c2⟩ := gl_of h2
    obtain ⟨s1, s2⟩ := slot_of C.toCz hi
    have kc := C.tx.kc c (by simpa using h4)
    refine ⟨fun pins s σ H Q I h => ?_⟩
    obtain ⟨F, en, x, dat, sl, es, ⟨ex1, ex2⟩, en', e, h⟩ := h
    have e : (match x.arg with
      | none => (ans.lookup x.cls).map PyData.bool
      | some _ => none) = some dat := e
    rw [en'] at e ex2
    have ex2 : d = none := ex2
    cases hl : ans.lookup x.cls with
    | none => simp only [hl] at e; cases e
    | some b =>
      simp only [hl] at e
      have e : some (PyData.bool b) = some dat := e
      cases e
      obtain ⟨m1, m2⟩ := ans_in h5 hl
      have kx := C.tx.kc _ m2
      have cl := C.tx.cl _ m1
      subst ex2
      rw [ex1] at hz
      have hv : PE (X.suite a ((a, oe) :: pn)) (.Name (nm.slot i) pn') (tVar i) := pe_var (X := X.suite a ((a, oe) :: pn)) s1 (vis_of s2) (dbg_of (visDbg s2)).1 (dbg_of (visDbg s2)).2
      have hcn : PE (X.suite a ((a, oe) :: pn)) (.Name c pc) (tC (.ref (He.ga X.K c))) := pe_glob (X := X.suite a ((a, oe) :: pn)) c1 kc.at_ rfl c2
      have hp := pe_callB (X := X.suite a ((a, oe) :: pn)) (call_isE kx.ex hz hf) g1 C.tx.oth.1 bn_isinstance (pa_cons hv (pa_cons hcn pa_nil rfl) rfl) (by decide) g2 rfl rfl (p := pf) (pos := p)
      refine hp.run pins s σ H Q I ?_
      exact ⟨_, es, _, _, b, rfl, fun u r => r, cl.2, h F H _ (Stp.refl sl) (.bl b)⟩
  | .and .., hc => by cases hc
  | .lst p xs, hc => by
    refine PEimp (pe_lst (pa_xes C hi hz hf xs hc)) fun σ H Q ⟨F, en, x, dat, sl, es, ex, na, e, h⟩ => ?_
    have e : (evXs x en xs).bind (fun ds => ned (okLen ds.length) (PyData.list ds)) = some dat := e
    cases q : evXs x en xs with
    | none => rw [q] at e; cases e
    | some ds =>
      rw [q] at e
      obtain ⟨hl, e⟩ := ned_some e
      subst e
      refine ⟨F, en, x, ds, sl, es, ex, na, q, fun F1 H1 vs st r => ⟨by rw [r.length]; exact okLen_le hl, fun p hp => ?_⟩⟩
      obtain ⟨F2, s2, _, r2⟩ := st.lst1 r hp
      exact h F2 _ _ s2 r2
  | .tup p k xs, hc => by
    refine PEimp (pe_tup (pa_xes C hi hz hf xs hc)) fun σ H Q ⟨F, en, x, dat, sl, es, ex, na, e, h⟩ => ?_
    have e : (evXs x en xs).bind (fun ds => ned (okLen ds.length) (PyData.tuple ds)) = some dat := e
    cases q : evXs x en xs with
    | none => rw [q] at e; cases e
    | some ds =>
      rw [q] at e
      obtain ⟨hl, e⟩ := ned_some e
      subst e
      refine ⟨F, en, x, ds, sl, es, ex, na, q, fun F1 H1 vs st r => ⟨by rw [r.length]; exact okLen_le hl, fun p hp => ?_⟩⟩
      obtain ⟨F2, s2, _, r2⟩ := st.tup1 r hp
      exact h F2 _ _ s2 r2
theorem pa_xes (C : Cs X n W wh nm S) {a : Addr} {i : Nat} {cls : Value} {d : Option Addr} {oe : Obj} {pn : List (Addr × Obj)} (hi : slotB nm X.env.scope i = true) (hz : Zc cls d oe) (hf : ∃ vs, oe.data = .fields vs) :
    ∀ es : XEs, chXs nm wh X.env.scope i es = true → PA (X.suite a ((a, oe) :: pn)) (XEs.ast nm i es) (tXEs X S a i cls d (fun x en => evXs x en es))
  | .nil, _ => by
    refine ⟨fun pos pins s σ H Q I h => ?_⟩
    obtain ⟨F, en, x, ds, sl, _, _, _, e, h⟩ := h
    have e : some ([] : List D) = some ds := e
    cases e
    exact pa_nil.run pos pins s σ H Q I (h F H [] (Stp.refl sl) .nil)
  | .cons x xs, hc => by
    obtain ⟨h1, h2⟩ := and2 hc
    refine ⟨fun pos pins s σ H Q I h => ?_⟩
    refine (pa_cons (pe_xe C hi hz hf x h1) (pa_xes C hi hz hf xs h2) (xe_star x)).run pos pins s σ H Q I ?_
    obtain ⟨F, en, xx, ds, sl, es, ex, na, e, h⟩ := h
    have e : (evX xx en x).bind (fun d => (evXs xx en xs).map (d :: ·)) = some ds := e
    cases q1 : evX xx en x with
    | none => rw [q1] at e; cases e
    | some d1 =>
      rw [q1] at e
      have e : (evXs xx en xs).map (d1 :: ·) = some ds := e
      cases q2 : evXs xx en xs with
      | none => rw [q2] at e; cases e
      | some ds2 =>
        rw [q2] at e
        cases e
        exact ⟨F, en, xx, d1, sl, es, ex, na, q1, fun F1 H1 v st r => ⟨F1, en, xx, ds2, st.sl, es, ex.later na st, na, q2, fun F2 H2 vs st2 rs => h F2 H2 _ (st.trans st2) (.cons (r.mono st2.mono) rs)⟩⟩
end
end
end Mp

end

section
namespace Mp
open PySem PySem.Spec PyProof.Rows L2

/-! ### except suites, try -/
section
variable {X : Cx} {n : Nat} {W : WX} {wh : Wh} {nm : Nm} {S : Sc} {Fb Hb : Hp} {oa : Option Addr}
def noW : WX := fun _ _ _ _ => False
def tSu (X : Cx) (S : Sc) (Fb Hb : Hp) (oa : Option Addr) (a : Addr) (i : Nat) (cls : Value) (d : Option Addr) (su : List XSt) : TS := fun D σ H => ∃ F en x, Fi X.K S.io Fb Hb oa σ F H en ∧ σ[i]? = some (some (.ref a)) ∧ ExAt X.K F H x cls d ∧ x.arg = none ∧
  Gs X.K S.io Fb Hb oa noW D F (evXS S.io x su en)
theorem pss_su (C : Cs X n W wh nm S) {a : Addr} {i : Nat} {cls : Value} {d : Option Addr} {oe : Obj} {pn : List (Addr × Obj)} (hi : slotB nm X.env.scope i = true) (hz : Zc cls d oe) (hf : ∃ vs, oe.data = .fields vs) :
    ∀ su : List XSt, su.all (chXSt nm wh X.env.scope i) = true → PSs (X.suite a ((a, oe) :: pn)) (su.map (XSt.ast nm i)) (tSu X S Fb Hb oa a i cls d su)
  | [], _ => PSsimp pss_nil fun D σ H ⟨F, en, x, fi, _, _, _, h⟩ => h σ F H fi fun _ _ h => h
  | .set p q j e :: r, hc => by
    rw [List.all_cons] at hc
    obtain ⟨h1, h2⟩ := and2 hc
    obtain ⟨h3, h4⟩ := and2 h1
    obtain ⟨h5, h6⟩ := and2 h4
    obtain ⟨g1, g2⟩ := and2 h5
    have hN := name_of C (of_decide_eq_true g1)
    have hl := loc_of C g2
    have hji : j ≠ i := of_decide_eq_true h6
    have hs := ps_set (X := X.suite a ((a, oe) :: pn)) (pos := p) (pos' := q) C.nd hN hl.1 (pe_xe C hi hz hf e h3) (xe_swap e) hl.2
    refine PSsimp (pss_cons hs (pss_su C hi hz hf r h2)) fun D σ H ⟨F, en, x, fi, es, ex, na, h⟩ => ?_
    have h : Gs X.K S.io Fb Hb oa noW D F ((Res.get (evX x en e)).bind fun d => .need (!(S.io == some j) && decide (j < en.length)) (evXS S.io x r (en.set j (.val d)))) := h
    cases q1 : evX x en e with
    | none => rw [q1] at h; exact h.elim
    | some dat =>
      rw [q1] at h
      obtain ⟨hb, h⟩ := Gs.need h
      obtain ⟨b1, b2⟩ := io_ne hb
      refine ⟨F, en, x, dat, fi.sl, es, ex, na, q1, fun F1 H1 v st r1 => ?_⟩
      show tSu X S Fb Hb oa a i cls d r D (σ.set j (some v)) H1
      exact ⟨F1, en.set j (.val dat), x, (fi.step st).put b2 b1 r1, by rw [List.getElem?_set_ne hji]; exact es, ex.later na st, na, Gs.base h st.mono⟩
  | .ret p e :: r, hc => by
    rw [List.all_cons] at hc
    obtain ⟨h1, h2⟩ := and2 hc
    have hs := ps_ret (X := X.suite a ((a, oe) :: pn)) (pos := p) (pe_xe C hi hz hf e h1)
    refine PSsimp (pss_cons hs (pss_su C hi hz hf r h2)) fun D σ H ⟨F, en, x, fi, es, ex, na, h⟩ => ?_
    have h : Gs X.K S.io Fb Hb oa noW D F ((Res.get (evX x en e)).bind fun d => .ok (.ret (.val d), en)) := h
    cases q1 : evX x en e with
    | none => rw [q1] at h; exact h.elim
    | some dat =>
      rw [q1] at h
      exact ⟨F, en, x, dat, fi.sl, es, ex, na, q1, fun F1 H1 v st r1 => h σ F1 H1 (fi.step st) st.mono v r1⟩
theorem xs_noEx {io : Option Nat} {x : Exc} {y : Exc} {e' : En} : ∀ {su : List XSt} (en : En), evXS io x su en ≠ .ex y e'
  | [], en => by unfold evXS; exact fun z => by cases z
  | .set p q j e :: r, en => by
    unfold evXS
    cases h : evX x en e with
    | none => exact fun z => by cases z
    | some d =>
      show Res.need _ _ ≠ _
      cases hb : (!(io == some j) && decide (j < en.length)) with
      | false => exact fun z => by cases z
      | true => exact xs_noEx (su := r) _
  | .ret p e :: r, en => by
    unfold evXS
    cases h : evX x en e with
    | none => exact fun z => by cases z
    | some d => exact fun z => by cases z
theorem xs_at {io : Option Nat} {x : Exc} {i : Nat} {sc : Scope} {fl : Fl} {en2 : En} : ∀ {su : List XSt} (en : En), su.all (chXSt nm wh sc i) = true → evXS io x su en = .ok (fl, en2) → en2[i]? = en[i]?
  | [], en, _, h => by
    unfold evXS at h
    cases h
    rfl
  | .set p q j e :: r, en, hc, h => by
    rw [List.all_cons] at hc
    obtain ⟨h1, h2⟩ := and2 hc
    have hji : j ≠ i := of_decide_eq_true (and2 (and2 h1).2).2
    unfold evXS at h
    cases q1 : evX x en e with
    | none => rw [q1] at h; cases h
    | some d =>
      rw [q1] at h
      have h : Res.need (!(io == some j) && decide (j < en.length)) (evXS io x r (en.set j (.val d))) = .ok (fl, en2) := h
      cases hb : (!(io == some j) && decide (j < en.length)) with
      | false => rw [hb] at h; cases h
      | true =>
        rw [hb] at h
        have := xs_at (su := r) _ h2 h
        rw [this, List.getElem?_set_ne hji]
  | .ret p e :: r, en, hc, h => by
    unfold evXS at h
    cases q1 : evX x en e with
    | none => rw [q1] at h; cases h
    | some d =>
      rw [q1] at h
      cases h
      rfl
def hdL (X : Cx) (S : Sc) (Fb Hb : Hp) (oa : Option Addr) (h : Hd) : Value × Option Nat × TX := (.ref (He.ga X.K h.c), some h.i, fun a cls d => tSu X S Fb Hb oa a h.i cls d h.su)
theorem hds_ok (C : Cs X n W wh nm S) : ∀ hs : List Hd, hs.all (chHd nm wh X.env.scope) = true → HdsA X (hs.map (Hd.ast nm)) (hs.map (hdL X S Fb Hb oa))
  | [], _ => .nil
  | h :: r, hc => by
    rw [List.all_cons] at hc
    obtain ⟨h1, h2⟩ := and2 hc
    obtain ⟨k1, h1⟩ := and2 h1
    obtain ⟨k2, h1⟩ := and2 h1
    obtain ⟨k3, h1⟩ := and2 h1
    obtain ⟨k4, h1⟩ := and2 h1
    obtain ⟨k5, h1⟩ := and2 h1
    obtain ⟨k6, h1⟩ := and2 h1
    obtain ⟨k7, k8⟩ := and2 h1
    obtain ⟨c1, c2⟩ := gl_of k1
    have kc := C.tx.kc h.c (by simpa using k3)
    obtain ⟨l1, l2⟩ := and2 k5
    have hN := name_of C (of_decide_eq_true l1)
    have l3 : X.env.scope.names.lookup (nm.slot h.i) = some .local := by
      unfold lclB at l2
      have l2 := (and2 l2).2
      split at l2
      · rename_i q
        exact q
      · cases l2
    have hsu : ∀ (a : Addr) (oe : Obj) (cls : Value) (d : Option Addr) (pn : List (Addr × Obj)), Zc cls d oe → (∃ vs, oe.data = .fields vs) → PSs (X.suite a ((a, oe) :: pn)) (h.su.map (XSt.ast nm h.i)) (tSu X S Fb Hb oa a h.i cls d h.su) := fun a oe cls d pn hz hf => pss_su C k6 hz hf h.su k8
    obtain ⟨c, pn', pe', ans, i, su⟩ := h
    cases su with
    | nil => cases k7
    | cons s0 su => exact .named ⟨c1, c2, .inl kc.at_⟩ hN l3 hsu (hds_ok C r h2)
theorem hds_w {D : Ends} {F0 : Hp} {x : Exc} {e : En} {σ : L2.St} {F H : Hp} {cls : Value} {dd : Option Addr} (C : Cs X n W wh nm S) (fi : Fi X.K S.io Fb Hb oa σ F H e) (s : Sub F0 F) (ex : ExAt X.K F H x cls dd) : ∀ hs : List Hd, hs.all (chHd nm wh X.env.scope) = true →
    Gs X.K S.io Fb Hb oa W D F0 (evH S.io hs x e) → wHds X.K W D (hs.map (hdL X S Fb Hb oa)) cls dd σ H
  | [], _, h => h σ F H cls dd fi s ex
  | hd :: r, hc, h => by
    rw [List.all_cons] at hc
    obtain ⟨h1, h2⟩ := and2 hc
    obtain ⟨k1, h1⟩ := and2 h1
    obtain ⟨k2, h1⟩ := and2 h1
    obtain ⟨k3, h1⟩ := and2 h1
    obtain ⟨k4, h1⟩ := and2 h1
    have h : Gs X.K S.io Fb Hb oa W D F0 (match hd.ans.lookup x.cls with
      | none => .bad
      | some false => evH S.io r x e
      | some true => .need (x.arg.isNone && plainAt S.io e hd.i) ((evXS S.io x hd.su (e.set hd.i .un)).bind fun q => .ok (q.1, q.2.set hd.i .un))) := h
    cases hl : hd.ans.lookup x.cls with
    | none => rw [hl] at h; exact h.elim
    | some b =>
      obtain ⟨m1, m2⟩ := ans_in k4 hl
      have cl := C.tx.cl _ m1
      refine ⟨b, by rw [ex.1]; exact cl.1, fun hb a ha => ?_, fun hb => ?_⟩
      · subst hb
        rw [hl] at h
        obtain ⟨hp, h⟩ := Gs.need h
        obtain ⟨hp1, hp2⟩ := and2 hp
        have na : x.arg = none := by simpa using hp1
        have hlt := (plainAt_of hp2).2.1
        show tSu X S Fb Hb oa a hd.i cls dd hd.su (goneE hd.i D) (σ.set hd.i (some (.ref a))) H
        refine ⟨F, e.set hd.i .un, x, fi.poke hp2 _, List.getElem?_set_self (by rw [← fi.sl.len]; exact hlt), ex, na, ?_⟩
        cases hr : evXS S.io x hd.su (e.set hd.i .un) with
        | bad => rw [hr] at h; exact h
        | ex y e' => exact absurd hr (xs_noEx _)
        | ok q =>
          rw [hr] at h
          obtain ⟨fl, en2⟩ := q
          have h : ∀ σ F H, Fi X.K S.io Fb Hb oa σ F H (en2.set hd.i .un) → Sub F0 F → EndsOk X.K Hb D σ F H fl := h
          intro σ2 F2 H2 fi2 s2
          obtain ⟨z1, z2⟩ := and2 hp2
          obtain ⟨_, h1⟩ := and2 h1
          obtain ⟨_, h1⟩ := and2 h1
          obtain ⟨_, k8⟩ := and2 h1
          have ea : en2[hd.i]? = some .un := by rw [xs_at _ k8 hr, List.getElem?_set_self hlt]
          have pl : plainAt S.io en2 hd.i = true := by
            unfold plainAt
            rw [ea]
            simpa using z1
          have h3 := h _ F2 H2 (fi2.poke pl none) (s.trans s2)
          cases fl with
          | nx => exact h3
          | brk => exact h3
          | cnt => exact h3
          | ret r => exact h3
      · subst hb
        rw [hl] at h
        exact hds_w C fi s ex r h2 h
theorem Cs.tr (C : Cs X n W wh nm S) {W' : WX} {pn : List (Addr × Obj)} {xe : Value → Shared → Prop} (tk : Takes (X.tr pn xe) W') (ps : PassesOwn (model X.prog X.w) X.A X.env xe) : Cs (X.tr pn xe) n W' wh nm S :=
  ⟨⟨⟨C.gd.calm, C.gd.room, C.gd.grd⟩, C.tx, C.N, C.nd, tk⟩, C.kind, ps, C.fn, C.stk, C.frm⟩
theorem ps_trD (C : Cs X n W wh nm S) {p : Pos} {b : Sms} {hs : List Hd} (hne : hs.isEmpty = false) (hc : hs.all (chHd nm wh X.env.scope) = true)
    (hb : ∀ (W' : WX) (pn : List (Addr × Obj)) (xe : Value → Shared → Prop), Cs (X.tr pn xe) n W' wh nm S → PSs (X.tr pn xe) (astSs nm b) (tSX (X.tr pn xe) S Fb Hb oa W' (evSs S b))) :
    PS X (.Try (astSs nm b) (hs.map (Hd.ast nm)) [] [] p) (tSX X S Fb Hb oa W (evS S (.tr p b hs))) := by
  cases hs with
  | nil => cases hne
  | cons h0 hr =>
    refine PSimp (ps_tryA (tb := fun W' => tSX X S Fb Hb oa W' (evSs S b)) C.stk C.frm C.nd C.tk (fun W' pn xe tk ps => hb W' pn xe (C.tr tk ps)) (hds_ok (Fb := Fb) (Hb := Hb) (oa := oa) C (h0 :: hr) hc)) fun D σ H ⟨F, en, fi, h⟩ => ⟨F, en, fi, ?_⟩
    have h : Gs X.K S.io Fb Hb oa W D F (caught (evH S.io (h0 :: hr)) (evSs S b en)) := h
    cases hr' : evSs S b en with
    | bad => rw [hr'] at h; exact h
    | ok q => rw [hr'] at h; exact h
    | ex x e =>
      rw [hr'] at h
      exact fun σ1 F1 H1 cls dd fi1 s1 ex1 => hds_w C fi1 s1 ex1 (h0 :: hr) hc h
theorem ps_rseD (C : Cs X n W wh nm S) {p p2 pn : Pos} {c : Str} (h1 : glB X.env.scope c = true) (h2 : wh.k0.contains c = true) : PS X (.Raise (some (.Call (.Name c pn) [] [] p2)) none p) (tSX X S Fb Hb oa W (evS S (.rse p p2 pn c))) := by
  obtain ⟨c1, c2⟩ := gl_of h1
  have k := C.tx.k0 c (by simpa using h2)
  refine PSimp (ps_raise C.gd.calm C.tk (pmk_own0 PySem.F.excBase_ValueError k.inn k.at_ k.kp (raises_own k.su k.ty) c1 c2)) fun D σ H ⟨F, en, fi, h⟩ => ?_
  exact h σ F H _ _ fi (fun _ _ z => z) ⟨rfl, rfl⟩
end
end Mp

end

section
namespace Mp
open PySem PySem.Spec PyProof.Rows L2

section
variable {X : Cx} {n : Nat} {W : WX} {wh : Wh} {nm : Nm} {S : Sc} {Fb Hb : Hp} {oa : Option Addr}
theorem noStar {f : Expr → Bool} (h0 : ∀ e, (∀ a p, e ≠ .Starred a p) → f e = false) : ∀ e : E, f (astE nm e) = false
  | .tmp e => noStar h0 e
  | .var .. | .frz .. | .mv .. | .pk .. | .int .. | .bl .. | .non .. | .str .. | .glob .. | .tup .. | .lst .. | .bin .. | .cmp .. | .cmp2 .. | .neg .. | .not .. | .and .. | .or .. | .ite .. | .ix .. | .sl .. | .no | .bi .. | .isi .. | .call .. | .callk .. | .comp .. => by
    simp only [astE] <;> exact h0 _ fun _ _ e => nomatch e
  | .ext x as => by
    simp only [astE]
    cases x <;> exact h0 _ fun _ _ e => nomatch e
theorem noStarM (e : E) : (match astE nm e with | .Starred _ _ => true | _ => false) = false :=
  noStar (f := fun e => match e with | .Starred _ _ => true | _ => false) (fun e h => by
    cases e <;> first | rfl | exact absurd rfl (h _ _)) e
theorem lcl_of {x : Str} (h : lclB X.env.scope x = true) : X.env.scope.names.lookup x = some .local := by
  unfold lclB at h
  rw [Bool.and_eq_true] at h
  have h2 := h.2
  split at h2
  · assumption
  · cases h2
theorem sw_two {x y : Str} {q1 q2 p1 p2 : Pos} {k1 k2 : Nat} {a b : E} {env : Env} (hk : env.scope.kind = .function) (hx : env.scope.names.lookup x = some .local) (hy : env.scope.names.lookup y = some .local) (hxy : x ≠ y) (hl : (q2.line == q1.line) = true)
    (hf : ([astE nm a, astE nm b].all (foldedForSure 8)) = false) (hc : ([astE nm a, astE nm b].all (constantsAlone 8)) = false) :
    swappedStores [.Tuple [.Name x q1, .Name y q2] k1 p1] (.Tuple [astE nm a, astE nm b] k2 p2) env = pure (some [x, y]) := by
  have hb : env.blockKind = .function := by unfold Env.blockKind; rw [hk]; rfl
  have kx : env.kindOf x = some .local := hx
  have ky : env.kindOf y = some .local := hy
  have e1 : (q1.line == q1.line) = true := beq_self_eq_true _
  unfold swappedStores
  simp only [hb, List.any_cons, List.any_nil, List.filterMap_cons, List.filterMap_nil, kx, ky, hf, hc, List.head?_cons, Option.map_some, Option.getD_some, Expr.pos, e1, hl]
  have c1 : (x == y) = false := by simpa using hxy
  have c2 : (y == x) = false := by simpa using Ne.symm hxy
  have t1 : (some NameKind.local == some NameKind.local && true) = true := by decide
  have t2 : (ScopeKind.function != ScopeKind.function) = false := by decide
  simp only [noStarM a, noStarM b, t1, t2, if_true, List.length_cons, List.length_nil, List.eraseDups_cons, List.filter_cons, List.filter_nil, c1, c2, List.eraseDups_nil, Bool.false_eq_true, if_false, Bool.not_false, Bool.or_false, Bool.false_or]
  rw [if_neg (by decide), if_neg fun h => ?_, if_neg (by decide)]
  rw [Bool.or_eq_true] at h
  rcases h with h | h
  · exact absurd ((noStarM a).symm.trans h) (by decide)
  · exact absurd ((noStarM b).symm.trans h) (by decide)
theorem ps_par2D (C : Cs X n W wh nm S) {p p1 p2 q1 q2 : Pos} {k1 k2 i j : Nat} {a b : E} (h1 : chE nm wh X.env.scope a = true) (h2 : chE nm wh X.env.scope b = true) (h3 : ch2 nm X.env.scope q1 q2 i j a b = true) :
    PS X (astS nm (.par2 p p1 p2 k1 k2 q1 q2 i j a b)) (tSX X S Fb Hb oa W (evS S (.par2 p p1 p2 k1 k2 q1 q2 i j a b))) := by
  obtain ⟨g1, g2⟩ := and2 h3
  obtain ⟨g2, g3⟩ := and2 g2
  obtain ⟨g3, g4⟩ := and2 g3
  obtain ⟨g4, g5⟩ := and2 g4
  obtain ⟨g5, g6⟩ := and2 g5
  obtain ⟨g6, g7⟩ := and2 g6
  obtain ⟨w1, w2⟩ := and2 g1
  obtain ⟨w3, w4⟩ := and2 g2
  have hij : i ≠ j := of_decide_eq_true g3
  have hw := sw_two (p1 := p1) (p2 := p2) (k1 := k1) (k2 := k2) (q1 := q1) (q2 := q2) (a := a) (b := b) (nm := nm) C.kind (lcl_of w2) (lcl_of w4) (of_decide_eq_true g4) g5 (Bool.not_eq_true' _ ▸ g6) (Bool.not_eq_true' _ ▸ g7)
  refine PSimp (ps_par C.gd.calm C.nd (name_of C (of_decide_eq_true w1)) (name_of C (of_decide_eq_true w3)) hij (lcl_of w2) (lcl_of w4) (pa_d2 (snd_e a C.toCz h1) (snd_e b C.toCz h2)) hw) fun D σ H ⟨F, en, fi, h⟩ => ?_
  have e := ds2_seq (a := evE S a) (b := evE S b) (en := en) (k := fun d z => Res.need (!(S.io == some i) && (!(S.io == some j) && decide (i < z.2.length ∧ j < z.2.length))) (.ok (Fl.nx, (z.2.set i (.val d)).set j (.val z.1))))
  have h : Gs X.K S.io Fb Hb oa W D F (((evE S a).d en).bind fun q => ((evE S b).d q.2).bind fun z => Res.need (!(S.io == some i) && (!(S.io == some j) && decide (i < z.2.length ∧ j < z.2.length))) (.ok (Fl.nx, (z.2.set i (.val q.1)).set j (.val z.1)))) := h
  rw [e] at h
  refine ⟨F, en, fi.sl, fi.seq h (fun _ _ h => h) fun ds F1 H1 en1 st fi1 hs h vs hv => ?_⟩
  cases hv with
  | nil => exact h.elim
  | cons r rr =>
    cases rr with
    | nil => exact h.elim
    | cons r' rr =>
      cases rr with
      | cons _ _ => exact h.elim
      | nil =>
        obtain ⟨hz, h⟩ := Gs.need h
        obtain ⟨z1, z2⟩ := and2 hz
        obtain ⟨z2, z3⟩ := and2 z2
        have z3 : i < en1.length ∧ j < en1.length := of_decide_eq_true z3
        have n1 : S.io ≠ some i := fun z => by rw [z] at z1; simp at z1
        have n2 : S.io ≠ some j := fun z => by rw [z] at z2; simp at z2
        exact ⟨_, _, rfl, h.done _ F1 H1 ((fi1.put z3.1 n1 r).put (by rw [List.length_set]; exact z3.2) n2 r') hs⟩

theorem astTgs_len : ∀ ts : Tgs, (astTgs nm ts).length = ts.len
  | .nil => rfl
  | .cons t ts => by
    show (astTg nm t :: astTgs nm ts).length = _
    rw [List.length_cons, astTgs_len ts]
    rfl
theorem fm_lt {f : Expr → Option Str} (hf : ∀ e, (∀ x p, e ≠ .Name x p) → f e = none) : ∀ {ts : Tgs}, allNm ts = false → ((astTgs nm ts).filterMap f).length < ts.len
  | .nil, h => by cases h
  | .cons t ts, h => by
    have le : ∀ l : List Expr, (l.filterMap f).length ≤ l.length := List.length_filterMap_le f
    show ((astTg nm t :: astTgs nm ts).filterMap f).length < ts.len + 1
    have h : (isNm t && allNm ts) = false := h
    rw [List.filterMap_cons]
    cases q : f (astTg nm t) with
    | none =>
      have := le (astTgs nm ts)
      rw [astTgs_len] at this
      simp only
      omega
    | some b =>
      simp only [List.length_cons]
      cases hn : isNm t with
      | true =>
        rw [hn, Bool.true_and] at h
        have := fm_lt hf h
        omega
      | false =>
        exfalso
        have : f (astTg nm t) = none := by
          cases t with
          | nm p i => exact Bool.noConfusion hn
          | nmo p i => exact Bool.noConfusion hn
          | tup p k ts => exact hf _ fun x p z => nomatch z
          | sub p pn i x => exact hf _ fun x p z => nomatch z
        rw [this] at q
        cases q
theorem sw_noT {ts : Tgs} {k k2 : Nat} {p p2 : Pos} {vs : List Expr} {env : Env} (h : swNo ts = true) : swappedStores [.Tuple (astTgs nm ts) k p] (.Tuple vs k2 p2) env = pure none := by
  unfold swappedStores
  simp only
  split
  · rfl
  · rename_i h1
    split
    · rfl
    · split
      · rfl
      · rename_i h3
        exfalso
        unfold swNo at h
        rw [Bool.or_eq_true] at h
        rcases h with h | h
        · apply h1
          rw [astTgs_len, h]
          rfl
        · apply h3
          rw [Bool.not_eq_true'] at h
          rw [Bool.or_eq_true]
          left
          rw [bne_iff_ne, astTgs_len]
          refine Nat.ne_of_lt (fm_lt (fun e he => ?_) h)
          cases e with
          | Name x p => exact absurd rfl (he x p)
          | _ => rfl
theorem fm_lt2 {f : Expr → Option Str} {env : Env} (hf : ∀ x p, (env.scope.names.lookup x == some .local) = false → f (.Name x p) = none) : ∀ {ts : Tgs}, cellIn nm env.scope ts = true → ((astTgs nm ts).filterMap f).length < ts.len
  | .nil, h => by cases h
  | .cons t ts, h => by
    have le : ∀ l : List Expr, (l.filterMap f).length ≤ l.length := List.length_filterMap_le f
    show ((astTg nm t :: astTgs nm ts).filterMap f).length < ts.len + 1
    have le2 := le (astTgs nm ts)
    rw [astTgs_len] at le2
    rw [List.filterMap_cons]
    cases q : f (astTg nm t) with
    | none =>
      simp only
      omega
    | some b =>
      have h2 : cellIn nm env.scope ts = true := by
        cases t with
        | nm p i =>
          have h : (!(env.scope.names.lookup (nm.slot i) == some .local) || cellIn nm env.scope ts) = true := h
          rw [Bool.or_eq_true] at h
          rcases h with h | h
          · rw [Bool.not_eq_true'] at h
            have := hf (nm.slot i) p h
            rw [show astTg nm (.nm p i) = .Name (nm.slot i) p from rfl] at q
            rw [this] at q
            cases q
          · exact h
        | nmo p i => exact h
        | tup p k ts' => exact h
        | sub p pn i x => exact h
      have := fm_lt2 hf h2
      simp only [List.length_cons]
      omega
theorem sw_noT2 {ts : Tgs} {k k2 : Nat} {p p2 : Pos} {vs : List Expr} {env : Env} (h : cellIn nm env.scope ts = true) : swappedStores [.Tuple (astTgs nm ts) k p] (.Tuple vs k2 p2) env = pure none := by
  unfold swappedStores
  simp only
  split
  · rfl
  · split
    · rfl
    · split
      · rfl
      · rename_i h3
        exfalso
        apply h3
        rw [Bool.or_eq_true]
        left
        rw [bne_iff_ne, astTgs_len]
        refine Nat.ne_of_lt (fm_lt2 (env := env) (fun x p e => ?_) h)
        have e : (env.kindOf x == some .local) = false := e
        simp only [e, Bool.false_and, Bool.false_eq_true, if_false]
theorem sw_noX {ts : Tgs} {k : Nat} {p : Pos} {env : Env} (h : swNo ts = true ∨ cellIn nm env.scope ts = true) : ∀ {e : E}, isTupX e = true → swappedStores [.Tuple (astTgs nm ts) k p] (astE nm e) env = pure none
  | .tup .., _ => by
    simp only [astE]
    rcases h with h | h
    · exact sw_noT h
    · exact sw_noT2 h
  | .tmp e, h' => sw_noX h (e := e) h'
  | .var .., h' | .frz .., h' | .mv .., h' | .pk .., h' | .int .., h' | .bl .., h' | .non .., h' | .str .., h' | .glob .., h' | .lst .., h' | .bin .., h' | .cmp .., h' | .cmp2 .., h' | .neg .., h' | .not .., h' | .and .., h' | .or .., h' | .ite .., h' | .ix .., h' | .sl .., h' | .no, h' | .bi .., h' | .isi .., h' | .call .., h' | .ext .., h' | .callk .., h' | .comp .., h' => by cases h'
theorem sw_three {x y z : Str} {q1 q2 q3 p1 p2 : Pos} {k1 k2 : Nat} {a b c : E} {env : Env} (hk : env.scope.kind = .function) (hx : env.scope.names.lookup x = some .local) (hy : env.scope.names.lookup y = some .local) (hz : env.scope.names.lookup z = some .local) (hxy : x ≠ y) (hxz : x ≠ z) (hyz : y ≠ z) (hl : (q2.line == q1.line) = true) (hl3 : (q3.line == q1.line) = true)
    (hf : ([astE nm a, astE nm b, astE nm c].all (foldedForSure 8)) = false) (hc : ([astE nm a, astE nm b, astE nm c].all (constantsAlone 8)) = false) :
    swappedStores [.Tuple [.Name x q1, .Name y q2, .Name z q3] k1 p1] (.Tuple [astE nm a, astE nm b, astE nm c] k2 p2) env = pure (some [x, y, z]) := by
  have hb : env.blockKind = .function := by unfold Env.blockKind; rw [hk]; rfl
  have kx : env.kindOf x = some .local := hx
  have ky : env.kindOf y = some .local := hy
  have kz : env.kindOf z = some .local := hz
  have e1 : (q1.line == q1.line) = true := beq_self_eq_true _
  unfold swappedStores
  simp only [hb, List.any_cons, List.any_nil, List.filterMap_cons, List.filterMap_nil, kx, ky, kz, hf, hc, List.head?_cons, Option.map_some, Option.getD_some, Expr.pos, e1, hl, hl3]
  have c1 : (x == y) = false := by simpa using hxy
  have c2 : (y == x) = false := by simpa using Ne.symm hxy
  have c3 : (x == z) = false := by simpa using hxz
  have c4 : (z == x) = false := by simpa using Ne.symm hxz
  have c5 : (y == z) = false := by simpa using hyz
  have c6 : (z == y) = false := by simpa using Ne.symm hyz
  have t1 : (some NameKind.local == some NameKind.local && true) = true := by decide
  have t2 : (ScopeKind.function != ScopeKind.function) = false := by decide
  simp only [t1, t2, if_true, List.length_cons, List.length_nil, List.eraseDups_cons, List.filter_cons, List.filter_nil, c1, c2, c3, c4, c5, c6, List.eraseDups_nil, Bool.false_eq_true, if_false, Bool.not_false, Bool.or_false, Bool.false_or]
  rw [if_neg (by decide), if_neg fun h => ?_, if_neg (by decide)]
  rw [Bool.or_eq_true, Bool.or_eq_true] at h
  rcases h with h | h | h
  · exact absurd ((noStarM a).symm.trans h) (by decide)
  · exact absurd ((noStarM b).symm.trans h) (by decide)
  · exact absurd ((noStarM c).symm.trans h) (by decide)
theorem ps_par3D (C : Cs X n W wh nm S) {p p1 p2 q1 q2 q3 : Pos} {k1 k2 i j l : Nat} {a b c : E} (h1 : chE nm wh X.env.scope a = true) (h2 : chE nm wh X.env.scope b = true) (h2' : chE nm wh X.env.scope c = true) (h3 : ch3 nm X.env.scope q1 q2 q3 i j l a b c = true) :
    PS X (astS nm (.par3 p p1 p2 k1 k2 q1 q2 q3 i j l a b c)) (tSX X S Fb Hb oa W (evS S (.par3 p p1 p2 k1 k2 q1 q2 q3 i j l a b c))) := by
  obtain ⟨g1, g2⟩ := and2 h3
  obtain ⟨g2, g3⟩ := and2 g2
  obtain ⟨g3, g4⟩ := and2 g3
  obtain ⟨g4, g5⟩ := and2 g4
  obtain ⟨g5, g6⟩ := and2 g5
  obtain ⟨g6, g7⟩ := and2 g6
  obtain ⟨g6, g8⟩ := and2 g6
  obtain ⟨g7, g9⟩ := and2 g7
  obtain ⟨w1, w2⟩ := and2 g1
  obtain ⟨w3, w4⟩ := and2 g2
  obtain ⟨w5, w6⟩ := and2 g3
  obtain ⟨hij, hil, hjl⟩ : i ≠ j ∧ i ≠ l ∧ j ≠ l := of_decide_eq_true g4
  obtain ⟨n1, n2, n3⟩ : nm.slot i ≠ nm.slot j ∧ nm.slot i ≠ nm.slot l ∧ nm.slot j ≠ nm.slot l := of_decide_eq_true g5
  have hw := sw_three (p1 := p1) (p2 := p2) (k1 := k1) (k2 := k2) (q1 := q1) (q2 := q2) (q3 := q3) (a := a) (b := b) (c := c) (nm := nm) C.kind (lcl_of w2) (lcl_of w4) (lcl_of w6) n1 n2 n3 g6 g8 (Bool.not_eq_true' _ ▸ g7) (Bool.not_eq_true' _ ▸ g9)
  refine PSimp (ps_par3 C.gd.calm C.nd (name_of C (of_decide_eq_true w1)) (name_of C (of_decide_eq_true w3)) (name_of C (of_decide_eq_true w5)) hij hil hjl (lcl_of w2) (lcl_of w4) (lcl_of w6) (sndAll_cons (snd_e a C.toCz h1) (sndAll_cons (snd_e b C.toCz h2) (sndAll_cons (snd_e c C.toCz h2') sndAll_nil))).ds hw) fun D σ H ⟨F, en, fi, h⟩ => ?_
  have h : Gs X.K S.io Fb Hb oa W D F (((evE S a).d en).bind fun q => ((evE S b).d q.2).bind fun z => ((evE S c).d z.2).bind fun w => Res.need (!(S.io == some i) && (!(S.io == some j) && (!(S.io == some l) && decide (i < w.2.length ∧ j < w.2.length ∧ l < w.2.length)))) (.ok (Fl.nx, ((w.2.set i (.val q.1)).set j (.val z.1)).set l (.val w.1)))) := h
  have e : (((evE S a).d en).bind fun q => ((evE S b).d q.2).bind fun z => ((evE S c).d z.2).bind fun w => Res.need (!(S.io == some i) && (!(S.io == some j) && (!(S.io == some l) && decide (i < w.2.length ∧ j < w.2.length ∧ l < w.2.length)))) (.ok (Fl.nx, ((w.2.set i (.val q.1)).set j (.val z.1)).set l (.val w.1)))) = (dsOf [evE S a, evE S b, evE S c] en).bind fun q => match q.1 with
    | [x, y, z] => Res.need (!(S.io == some i) && (!(S.io == some j) && (!(S.io == some l) && decide (i < q.2.length ∧ j < q.2.length ∧ l < q.2.length)))) (.ok (Fl.nx, ((q.2.set i (.val x)).set j (.val y)).set l (.val z)))
    | _ => .bad := by
    unfold dsOf dsOf dsOf dsOf
    cases (evE S a).d en with
    | bad => rfl
    | ex x e => rfl
    | ok p =>
      simp only [Res.bind]
      cases (evE S b).d p.2 with
      | bad => rfl
      | ex x e => rfl
      | ok p' =>
        simp only [Res.bind]
        cases (evE S c).d p'.2 <;> rfl
  rw [e] at h
  refine ⟨F, en, fi.sl, fi.seq h (fun _ _ h => h) fun ds F1 H1 en1 st fi1 hs h vs hv => ?_⟩
  cases hv with
  | nil => exact h.elim
  | cons r rr =>
    cases rr with
    | nil => exact h.elim
    | cons r' rr =>
      cases rr with
      | nil => exact h.elim
      | cons r'' rr =>
        cases rr with
        | cons _ _ => exact h.elim
        | nil =>
          obtain ⟨hz, h⟩ := Gs.need h
          obtain ⟨z1, z2⟩ := and2 hz
          obtain ⟨z2, z3⟩ := and2 z2
          obtain ⟨z3, z4⟩ := and2 z3
          have z4 : i < en1.length ∧ j < en1.length ∧ l < en1.length := of_decide_eq_true z4
          have n1 : S.io ≠ some i := fun z => by rw [z] at z1; simp at z1
          have n2 : S.io ≠ some j := fun z => by rw [z] at z2; simp at z2
          have n3 : S.io ≠ some l := fun z => by rw [z] at z3; simp at z3
          exact ⟨_, _, _, rfl, h.done _ F1 H1 (((fi1.put z4.1 n1 r).put (by rw [List.length_set]; exact z4.2.1) n2 r').put (by rw [List.length_set, List.length_set]; exact z4.2.2) n3 r'') hs⟩

/-! ### several stores at once, own lists among them -/
/-- two own lists among some arguments are two -/
def Apart : List V → List Av → Prop
  | v :: vs, a :: as => (∀ ds, a = .own ds → ∀ (k : Nat) (es : List D), as[k]? = some (.own es) → vs[k]? ≠ some v) ∧ Apart vs as
  | _, _ => True
def tAx (K : PySem.W.Frag) (io : Option Nat) (W : WX) (g : En → R (List Av × En)) : TA := fun σ H Q => ∃ F en, Sl K F H en σ ∧ Wpx K io W σ F H en (g en) fun r F' H' en' => ∀ vs, AvsOk K σ H en F' H' en' vs r → Apart vs r → Q vs H'
theorem ax_nil : PA X [] (tAx X.K S.io W (avsOf [])) := PAimp pa_nil fun σ H Q ⟨F, en, sl, h⟩ => h.done F H (Stp.refl sl) [] trivial trivial
theorem avs_at {K : PySem.W.Frag} {σ : L2.St} {H F1 H1 : Hp} {en en1 : En} {vs : List V} {as : List Av} {k : Nat} {es : List D} {v : V} (h : AvsOk K σ H en F1 H1 en1 vs as) (h1 : as[k]? = some (.own es)) (h2 : vs[k]? = some v) : ∃ a, v = .ref a ∧ (H a = none ∨ OwnAt σ en a) := by
  obtain ⟨w, h3, h4⟩ := h.get h1
  rw [h2] at h3
  cases h3
  obtain ⟨a, xs, e, _, _, _, _, h5⟩ := h4
  exact ⟨a, e, h5⟩
theorem ax_cons {e : E} {es : List Expr} {gs : List Ev} (h1 : Snd X W nm S e) (h2 : PA X es (tAx X.K S.io W (avsOf gs))) : PA X (astE nm e :: es) (tAx X.K S.io W (avsOf (evE S e :: gs))) := by
  refine PAimp (pa_cons h1.a h2 (star_ok e)) fun σ H Q ⟨F, en, sl, h⟩ => ⟨F, en, sl, h.seq (Stp.refl sl) fun d F1 H1 en1 st1 h v hv => ⟨F1, en1, st1.sl, h.seq st1 fun ds F2 H2 en2 st2 h vs hvs hap => ?_⟩⟩
  refine h.done F2 H2 (st1.trans st2) (v :: vs) ⟨hv.later st2, hvs.from st1⟩ ⟨fun ds' e' k es' hk hv' => ?_, hap⟩
  subst e'
  obtain ⟨a, xs, e1, g1, g2, g3, g4, g5⟩ := hv
  obtain ⟨b, e2, g6⟩ := avs_at hvs hk hv'
  rw [e1] at e2
  cases e2
  rcases g6 with z | z
  · rw [g1] at z; cases z
  · exact g4 z
/-- what a store takes -/
def PutOk (K : PySem.W.Frag) (Hb : Hp) (σ : L2.St) (F H : Hp) (en : En) (v : V) : Av → Prop
  | .dat d => Rp K F v d
  | .pk _ => True
  | .own ds => ∃ a xs, v = .ref a ∧ H a = some (.lst xs) ∧ F a = none ∧ RpAll K F xs ds ∧ ¬ OwnAt σ en a ∧ Hb a = none
def PutsOk (K : PySem.W.Frag) (Hb : Hp) (σ : L2.St) (F H : Hp) (en : En) : List V → List Av → Prop
  | [], [] => True
  | v :: vs, a :: as => PutOk K Hb σ F H en v a ∧ PutsOk K Hb σ F H en vs as
  | _, _ => False
theorem puts_of {K : PySem.W.Frag} {io : Option Nat} {σ : L2.St} {F H F0 H0 : Hp} {en en0 : En} (fi0 : Fi K io Fb Hb oa σ F0 H0 en0) (fi : Fi K io Fb Hb oa σ F H en) : ∀ {vs : List V} {as : List Av}, AvsOk K σ H0 en0 F H en vs as → PutsOk K Hb σ F H en vs as
  | [], [], _ => trivial
  | v :: vs, a :: as, h => by
    refine ⟨?_, puts_of fi0 fi h.2⟩
    cases a with
    | dat d => exact h.1
    | pk i => trivial
    | own ds =>
      obtain ⟨b, xs, e, g1, g2, g3, g4, g5⟩ := h.1
      exact ⟨b, xs, e, g1, g2, g3, g4, fi0.own_new fi g4 g5⟩
  | [], _ :: _, h => h.elim
  | _ :: _, [], h => h.elim
/-- behind a store, the others still take -/
theorem puts_keep {K : PySem.W.Frag} {σ : L2.St} {F H : Hp} {en : En} {i : Nat} {v : V} {a : Av} {s : Sv} (hs : avSv a = some s) : ∀ {vs : List V} {as : List Av}, (∀ ds, a = .own ds → ∀ (k : Nat) (es : List D), as[k]? = some (.own es) → vs[k]? ≠ some v) → PutsOk K Hb σ F H en vs as → PutsOk K Hb (σ.set i (some v)) F H (en.set i s) vs as
  | [], [], _, _ => trivial
  | w :: vs, b :: as, hn, h => by
    refine ⟨?_, puts_keep hs (fun ds e k es hk => hn ds e (k + 1) es (by simpa using hk)) h.2⟩
    cases b with
    | dat d => exact h.1
    | pk i => trivial
    | own ds =>
      obtain ⟨c, xs, e, g1, g2, g3, g4, g5⟩ := h.1
      refine ⟨c, xs, e, g1, g2, g3, fun ⟨j, fs, w1, w2⟩ => ?_, g5⟩
      by_cases ej : i = j
      · subst ej
        have hl : i < en.length := by
          have := (List.getElem?_eq_some_iff.mp w1).1
          simpa using this
        have hl2 : i < σ.length := by
          have := (List.getElem?_eq_some_iff.mp w2).1
          simpa using this
        rw [List.getElem?_set_self hl] at w1
        rw [List.getElem?_set_self hl2] at w2
        cases w1
        cases a with
        | dat d => cases hs
        | pk k => cases hs
        | own fs' =>
          have := hn fs' rfl 0 ds rfl
          apply this
          rw [e]
          have w2 : some v = some (.ref c) := Option.some.inj w2
          rw [w2]
          rfl
      · rw [List.getElem?_set_ne ej] at w1 w2
        exact g4 ⟨j, fs, w1, w2⟩
  | [], _ :: _, _, h => h.elim
  | _ :: _, [], _, h => h.elim
def setsV (σ : L2.St) : List Nat → List V → L2.St
  | i :: is, v :: vs => setsV (σ.set i (some v)) is vs
  | _, _ => σ
theorem puts_end {K : PySem.W.Frag} {io : Option Nat} {D : Ends} {F0 F H : Hp} (hs : Sub F0 F) : ∀ {is : List Nat} {vs : List V} {as : List Av} {σ : L2.St} {en : En}, Fi K io Fb Hb oa σ F H en → PutsOk K Hb σ F H en vs as → Apart vs as → Gs K io Fb Hb oa W D F0 (pvPut io is as en) → vs.length = is.length ∧ D.nx (setsV σ is vs) H
  | [], [], [], σ, en, fi, _, _, h => ⟨rfl, h.done σ F H fi hs⟩
  | i :: is, v :: vs, a :: as, σ, en, fi, hp, ha, h => by
    have h : Gs K io Fb Hb oa W D F0 ((Res.get (avSv a)).bind fun s => .need (!(io == some i) && decide (i < en.length)) (pvPut io is as (en.set i s))) := h
    cases hs' : avSv a with
    | none => rw [hs'] at h; exact h.elim
    | some s =>
      rw [hs'] at h
      obtain ⟨hb, h⟩ := Gs.need h
      obtain ⟨b1, b2⟩ := io_ne hb
      have fi1 : Fi K io Fb Hb oa (σ.set i (some v)) F H (en.set i s) := by
        cases a with
        | dat d =>
          cases hs'
          exact fi.put b2 b1 hp.1
        | pk k => cases hs'
        | own ds =>
          cases hs'
          obtain ⟨c, xs, rfl, g1, g2, g3, g4, g5⟩ := hp.1
          exact fi.putOwn b2 b1 g1 g2 g3 g4 g5
      obtain ⟨e1, e2⟩ := puts_end hs fi1 (puts_keep hs' ha.1 hp.2) ha.2 h
      exact ⟨congrArg Nat.succ e1, e2⟩
  | [], _ :: _, [], _, _, _, hp, _, _ => hp.elim
  | [], [], _ :: _, _, _, _, hp, _, _ => hp.elim
  | [], _ :: _, _ :: _, _, _, _, _, _, h => h.elim
  | _ :: _, [], [], _, _, _, _, _, h => h.elim
  | _ :: _, _ :: _, [], _, _, _, hp, _, _ => hp.elim
  | _ :: _, [], _ :: _, _, _, _, hp, _, _ => hp.elim
theorem ps_pv2D (C : Cs X n W wh nm S) {p p1 p2 q1 q2 : Pos} {k1 k2 i j : Nat} {a b : E} (h1 : chE nm wh X.env.scope a = true) (h2 : chE nm wh X.env.scope b = true) (h3 : ch2 nm X.env.scope q1 q2 i j a b = true) :
    PS X (astS nm (.pv2 p p1 p2 k1 k2 q1 q2 i j a b)) (tSX X S Fb Hb oa W (evS S (.pv2 p p1 p2 k1 k2 q1 q2 i j a b))) := by
  obtain ⟨g1, g2⟩ := and2 h3
  obtain ⟨g2, g3⟩ := and2 g2
  obtain ⟨g3, g4⟩ := and2 g3
  obtain ⟨g4, g5⟩ := and2 g4
  obtain ⟨g5, g6⟩ := and2 g5
  obtain ⟨g6, g7⟩ := and2 g6
  obtain ⟨w1, w2⟩ := and2 g1
  obtain ⟨w3, w4⟩ := and2 g2
  have hij : i ≠ j := of_decide_eq_true g3
  have hw := sw_two (p1 := p1) (p2 := p2) (k1 := k1) (k2 := k2) (q1 := q1) (q2 := q2) (a := a) (b := b) (nm := nm) C.kind (lcl_of w2) (lcl_of w4) (of_decide_eq_true g4) g5 (Bool.not_eq_true' _ ▸ g6) (Bool.not_eq_true' _ ▸ g7)
  refine PSimp (ps_par C.gd.calm C.nd (name_of C (of_decide_eq_true w1)) (name_of C (of_decide_eq_true w3)) hij (lcl_of w2) (lcl_of w4) (ax_cons (snd_e a C.toCz h1) (ax_cons (snd_e b C.toCz h2) ax_nil)) hw) fun D σ H ⟨F, en, fi, h⟩ => ?_
  have h : Gs X.K S.io Fb Hb oa W D F ((avsOf [evE S a, evE S b] en).bind fun q => pvPut S.io [i, j] q.1 q.2) := h
  refine ⟨F, en, fi.sl, fi.seq h (fun _ _ h => h) fun as F1 H1 en1 st fi1 hs h vs hv ha => ?_⟩
  obtain ⟨hl, e⟩ := puts_end hs fi1 (puts_of fi fi1 hv) ha h
  match vs, hl, e with
  | [u, v], _, e => exact ⟨u, v, rfl, e⟩
theorem ps_pv3D (C : Cs X n W wh nm S) {p p1 p2 q1 q2 q3 : Pos} {k1 k2 i j l : Nat} {a b c : E} (h1 : chE nm wh X.env.scope a = true) (h2 : chE nm wh X.env.scope b = true) (h2' : chE nm wh X.env.scope c = true) (h3 : ch3 nm X.env.scope q1 q2 q3 i j l a b c = true) :
    PS X (astS nm (.pv3 p p1 p2 k1 k2 q1 q2 q3 i j l a b c)) (tSX X S Fb Hb oa W (evS S (.pv3 p p1 p2 k1 k2 q1 q2 q3 i j l a b c))) := by
  obtain ⟨g1, g2⟩ := and2 h3
  obtain ⟨g2, g3⟩ := and2 g2
  obtain ⟨g3, g4⟩ := and2 g3
  obtain ⟨g4, g5⟩ := and2 g4
  obtain ⟨g5, g6⟩ := and2 g5
  obtain ⟨g6, g7⟩ := and2 g6
  obtain ⟨g6, g8⟩ := and2 g6
  obtain ⟨g7, g9⟩ := and2 g7
  obtain ⟨w1, w2⟩ := and2 g1
  obtain ⟨w3, w4⟩ := and2 g2
  obtain ⟨w5, w6⟩ := and2 g3
  obtain ⟨hij, hil, hjl⟩ : i ≠ j ∧ i ≠ l ∧ j ≠ l := of_decide_eq_true g4
  obtain ⟨n1, n2, n3⟩ : nm.slot i ≠ nm.slot j ∧ nm.slot i ≠ nm.slot l ∧ nm.slot j ≠ nm.slot l := of_decide_eq_true g5
  have hw := sw_three (p1 := p1) (p2 := p2) (k1 := k1) (k2 := k2) (q1 := q1) (q2 := q2) (q3 := q3) (a := a) (b := b) (c := c) (nm := nm) C.kind (lcl_of w2) (lcl_of w4) (lcl_of w6) n1 n2 n3 g6 g8 (Bool.not_eq_true' _ ▸ g7) (Bool.not_eq_true' _ ▸ g9)
  refine PSimp (ps_par3 C.gd.calm C.nd (name_of C (of_decide_eq_true w1)) (name_of C (of_decide_eq_true w3)) (name_of C (of_decide_eq_true w5)) hij hil hjl (lcl_of w2) (lcl_of w4) (lcl_of w6) (ax_cons (snd_e a C.toCz h1) (ax_cons (snd_e b C.toCz h2) (ax_cons (snd_e c C.toCz h2') ax_nil))) hw) fun D σ H ⟨F, en, fi, h⟩ => ?_
  have h : Gs X.K S.io Fb Hb oa W D F ((avsOf [evE S a, evE S b, evE S c] en).bind fun q => pvPut S.io [i, j, l] q.1 q.2) := h
  refine ⟨F, en, fi.sl, fi.seq h (fun _ _ h => h) fun as F1 H1 en1 st fi1 hs h vs hv ha => ?_⟩
  obtain ⟨hl, e⟩ := puts_end hs fi1 (puts_of fi fi1 hv) ha h
  match vs, hl, e with
  | [u, v, w], _, e => exact ⟨u, v, w, rfl, e⟩

theorem insX_some {l : List D} {o : Option Sv} {r : List D} (h : insX l o = some r) : ∃ m d ds, l = [.int m, d] ∧ o = some (.own ds) ∧ okLen (ds.length + 1) = true ∧ (0 ≤ m ∧ m ≤ (ds.length : Nat)) ∧ r = ds.take m.toNat ++ d :: ds.drop m.toNat := by
  unfold insX at h
  split at h
  · rename_i m d
    split at h
    · rename_i ds
      unfold insL at h
      obtain ⟨h1, h2⟩ := ned_some h
      obtain ⟨h1, h3⟩ := and2 h1
      exact ⟨m, d, ds, rfl, rfl, h1, of_decide_eq_true h3, h2.symm⟩
    · cases h
  · cases h
theorem ps_insD (C : Cs X n W wh nm S) {p pc pa pn : Pos} {i : Nat} {k e : E} (h1 : slotB nm X.env.scope i = true) (hk : chE nm wh X.env.scope k = true) (h2 : chE nm wh X.env.scope e = true) (h3 : (pa.endLine == pc.line) = true) : PS X (.Expr (.Call (.Attribute (.Name (nm.slot i) pn) "insert" pa) [astE nm k, astE nm e] [] pc) p) (tSX X S Fb Hb oa W (evS S (.ins p pc pa pn i k e))) := by
  have hs1 : starEach [astE nm e] X.env = [(false, eval (astE nm e) X.env)] := star1
  have hs2 : starEach [astE nm k, astE nm e] X.env = [(false, eval (astE nm k) X.env), (false, eval (astE nm e) X.env)] := by rw [star_ok k, hs1]
  refine PSimp (ps_expr (pe_bm PySem.F.plainAttrs_list PySem.F.slot_list_insert PySem.F.type_list_insert mt_insert (pe_slot C.toCz h1) (pa_d2 (snd_e k C.toCz hk) (snd_e e C.toCz h2)) rfl (by rw [hs2]; rfl) h3 (star_ok k) (by rw [hs1]; rfl))) fun D σ H ⟨F, en, fi, h⟩ => ?_
  have h : Gs X.K S.io Fb Hb oa W D F ((pkAt i en).bind fun p => (dsOf [evE S k, evE S e] p.2).bind fun q => (Res.get (insX q.1 q.2[i]?)).bind fun z => .ok (.nx, q.2.set i (.own z))) := h
  cases q0 : pkAt i en with
  | bad => rw [q0] at h; exact h.elim
  | ex x' e' =>
    unfold pkAt at q0
    split at q0 <;> cases q0
  | ok z =>
    obtain ⟨av, en1'⟩ := z
    rw [q0] at h
    unfold pkAt at q0
    split at q0
    · rename_i ds0 q1
      cases q0
      obtain ⟨a, xs0, g1, g2, _⟩ := fi.sl.own i ds0 q1
      refine ⟨.ref a, g1, .inl ⟨rfl, xs0, SqL.of g2⟩, F, en, fi.sl, fi.seq h (fun _ _ h => h) fun d F1 H1 en1 st fi1 hs h vs hv => ?_⟩
      have h : Gs X.K S.io Fb Hb oa W D F ((Res.get (insX d en1[i]?)).bind fun z => .ok (.nx, en1.set i (.own z))) := h
      cases q2 : insX d en1[i]? with
      | none => rw [q2] at h; exact h.elim
      | some r =>
        rw [q2] at h
        obtain ⟨m, d', ds, rfl, q3, hz, hm, rfl⟩ := insX_some q2
        have hz := okLen_le hz
        obtain ⟨a', xs, w1, w2, w3, w4⟩ := fi1.sl.own i ds q3
        rw [g1] at w1
        cases w1
        have hxl := w4.length
        match vs, hv with
        | [v1, v2], .cons hv1 (.cons hv2 .nil) =>
          cases hv1
          have hb : m < 2 ^ 63 := by
            have : sizeLine < 2 ^ 63 := by decide
            omega
          refine ⟨a, xs, m, v2, rfl, rfl, w2, by omega, hm.1, hb, ?_⟩
          have ww := (w4.take m.toNat).append (.cons hv2 (w4.drop m.toNat))
          have e3 : xs.take m.toNat ++ [v2] ++ xs.drop m.toNat = xs.take m.toNat ++ v2 :: xs.drop m.toNat := by simp
          rw [e3]
          exact h.done σ F1 _ (fi1.write g1 q3 ww) hs
    · cases q0

/-! ### every statement is sound -/
mutual
theorem snd_s {X : Cx} {W : WX} (C : Cs X n W wh nm S) : ∀ s : Sm, chS nm wh X.env.scope s = true → PS X (astS nm s) (tSX X S Fb Hb oa W (evS S s))
  | .set p (.nm q i) e, h =>
    let ⟨h1, h2⟩ := and2 h
    let ⟨h2, h3⟩ := and2 h2
    ps_setD C h1 h2 h3
  | .set p (.nmo q i) e, h =>
    let ⟨h1, h2⟩ := and2 h
    let ⟨h2, h3⟩ := and2 h2
    ps_setO C h1 h2 h3
  | .set p (.tup q k ts) e, h => by
    obtain ⟨h1, h2⟩ := and2 h
    obtain ⟨h2, h3⟩ := and2 h2
    obtain ⟨h3, h4⟩ := and2 h3
    refine ps_setF C h1 (t := .tup q k ts) h2 (by simpa using h3) tup_dat ?_
    rw [Bool.or_eq_true] at h4
    cases ht : isTupX e with
    | false => exact sw_none ht
    | true =>
      rcases h4 with h4 | h4
      · rw [ht] at h4
        cases h4
      · rw [Bool.or_eq_true] at h4
        exact sw_noX h4 ht
  | .set p (.sub q pn i x) e, h => by
    obtain ⟨h1, h2⟩ := and2 h
    obtain ⟨h2, h3⟩ := and2 h2
    exact ps_setF C h1 (t := .sub q pn i x) h2 (by simpa using h3) sub_dat rfl
  | .par2 p p1 p2 k1 k2 q1 q2 i j a b, h =>
    let ⟨h1, h2⟩ := and2 h
    let ⟨h2, h3⟩ := and2 h2
    ps_par2D C h1 h2 h3
  | .par3 p p1 p2 k1 k2 q1 q2 q3 i j l a b c, h =>
    let ⟨h1, h2⟩ := and2 h
    let ⟨h2, h3⟩ := and2 h2
    let ⟨h3, h4⟩ := and2 h3
    ps_par3D C h1 h2 h3 h4
  | .pv2 p p1 p2 k1 k2 q1 q2 i j a b, h =>
    let ⟨h1, h2⟩ := and2 h
    let ⟨h2, h3⟩ := and2 h2
    ps_pv2D C h1 h2 h3
  | .pv3 p p1 p2 k1 k2 q1 q2 q3 i j l a b c, h =>
    let ⟨h1, h2⟩ := and2 h
    let ⟨h2, h3⟩ := and2 h2
    let ⟨h3, h4⟩ := and2 h3
    ps_pv3D C h1 h2 h3 h4
  | .ex p e, h => by
    obtain ⟨h1, h2⟩ := and2 h
    exact ps_exD C h1 (by simpa using h2)
  | .app p pc pa pn i e, h =>
    let ⟨h1, h2⟩ := and2 h
    let ⟨h2, h3⟩ := and2 h2
    ps_appD C h1 h2 h3
  | .ins p pc pa pn i k e, h =>
    let ⟨h1, h2⟩ := and2 h
    let ⟨h2, h3⟩ := and2 h2
    let ⟨h3, h4⟩ := and2 h3
    ps_insD C h1 h2 h3 h4
  | .ifs p c a b, h =>
    let ⟨h1, h2⟩ := and2 h
    let ⟨h2, h3⟩ := and2 h2
    ps_ifD C h1 (snd_ss C a h2) (snd_ss C b h3)
  | .whl p c b, h =>
    let ⟨h1, h2⟩ := and2 h
    ps_whlD C h1 (snd_ss C b h2)
  | .fors p t it b, h =>
    let ⟨h1, h2⟩ := and2 h
    let ⟨h2, h3⟩ := and2 h2
    let ⟨h3, h4⟩ := and2 h3
    let ⟨h4, h5⟩ := and2 h4
    ps_forD C h1 h2 h3 h4 (snd_ss C b h5)
  | .ret p e, h => ps_retD C h
  | .brk p, _ => ps_nx ps_break (fun _ => rfl) fun D σ F H h => h
  | .cnt p, _ => ps_nx ps_continue (fun _ => rfl) fun D σ F H h => h
  | .pass p, _ => ps_nx ps_pass (fun _ => rfl) fun D σ F H h => h
  | .nev st, _ => ⟨fun pins s σ H D I ⟨F, en, fi, h⟩ => h.elim⟩
  | .rse p p2 pn c, h =>
    let ⟨h1, h2⟩ := and2 h
    let ⟨_, h3⟩ := and2 h2
    ps_rseD C h1 h3
  | .tr p b hs, h =>
    let ⟨h1, h2⟩ := and2 h
    let ⟨h2, h3⟩ := and2 h2
    ps_trD C (by simpa using h2) h3 fun W' pn xe C' => snd_ss C' b h1
theorem snd_ss {X : Cx} {W : WX} (C : Cs X n W wh nm S) : ∀ ss : Sms, chSs nm wh X.env.scope ss = true → PSs X (astSs nm ss) (tSX X S Fb Hb oa W (evSs S ss))
  | .nil, _ => PSsimp pss_nil fun D σ H ⟨F, en, fi, h⟩ => h.done σ F H fi fun _ _ h => h
  | .cons s ss, h => by
    obtain ⟨h1, h2⟩ := and2 h
    refine PSsimp (pss_cons (snd_s C s h1) (snd_ss C ss h2)) fun D σ H ⟨F, en, fi, h⟩ => ⟨F, en, fi, ?_⟩
    have h : Gs X.K S.io Fb Hb oa W D F ((evS S s en).bind fun q => match q.1 with
      | .nx => evSs S ss q.2
      | f => .ok (f, q.2)) := h
    refine Gs.imp h (fun _ _ h => h) fun q σ F1 H1 fi1 hs h => ?_
    obtain ⟨fl, en1⟩ := q
    cases fl with
    | nx => exact ⟨F1, en1, fi1, Gs.base h hs⟩
    | brk => exact h.done σ F1 H1 fi1 hs
    | cnt => exact h.done σ F1 H1 fi1 hs
    | ret r => exact h.done σ F1 H1 fi1 hs
end
end
end Mp

end

section
namespace Mp
open PySem PySem.Spec PyProof.Rows L2

/-! ### a def by its body -/
section
variable {P : Program} {w : World} {K : PySem.W.Frag} {mg : Str → Option Value} {base : Heap}
/-- the rule for a def's promise where no guard runs -/
theorem fnG_of {CX : CXT} {x qual : Str} {params : Arguments} {body : List Stmt} {scope : Scope} {dvs : List V} {kws : List (Str × V)} {f : Addr} {fd : FuncData} {N ps : List Str} {k : Nat} {sp : Sp} (Fd : FunD K x qual params body scope dvs kws f fd) (S : FnScope N ps scope) (len : ∀ vs H Q E, sp vs H Q E → vs.length = ps.length)
    (hbody : ∀ (cdv : Value) (A : Around) (outer : List Env) (s : Shared) (H : Hp) (vs : List V) (Q : VK) (E : XK), Room k (A.deeper (envOfC qual scope s.heap.objs.size f cdv)) → A.guards = some [] → sp vs H Q E →
      ∃ t, PSs (cxOf CX P w K mg base N qual scope f cdv A outer s H E) body t ∧ t { nx := fun _ H' => Q .non H', rt := Q } (start N vs) H) : FnG P w K mg base CX (k + 1) f fd ps sp := by
  obtain ⟨oc, od, dV, kV, doc, pm, an, cdv, ct, osl, rfl, lk, hcd, _, _⟩ := Fd.ex
  refine ⟨len, fun A outer s H args us vs Q E hr hg e0 hb r hsp => ?_⟩
  have hl := len _ _ _ _ hsp
  have KX : K.In s.heap := e0.mod.kin.keeps fun b o e => (e0.bs b o e).1
  have lim : s.heap.NoLimit := e0.mod.nolimit.keeps fun b o e => (e0.bs b o e).1
  have hkind : ∀ y ∈ ps.zip us, scope.names.lookup y.1 = some .local ∨ (scope.names.lookup y.1 = some .cell ∧ ((cellsFrom (s.heap.objs.size + 1) scope.names []).lookup y.1).isSome = true) := fun ⟨n, v⟩ hy =>
    (S.par n (List.of_mem_zip hy).1).imp_right fun q => ⟨q, PySem.W.cellsFrom_some _ _ _ (.inl q)⟩
  refine codeAny_call_function hr.depth (KX _ _ lk) rfl S.co S.gen rfl (PySem.W.codeRec_of KX hcd) (hb _ _ _ _ ?_)
  refine wpAny_newFunctionEnv_cells S.kind hkind fun env he s1 x => ?_
  subst he
  obtain ⟨t, ht, hq⟩ := hbody cdv A outer s H vs Q E (hr.deeper _) hg hsp
  refine ⟨lim.keeps x.toInCall.keep, codeAny_func (wpAny_mono (ht.run [] s1 (start N vs) H _ (inv_start S hr.hd e0 hl r x) hq) (fun fl s' hs => ?_) fun e s' hs => hs)⟩
  cases fl with
  | ret u =>
    obtain ⟨v, σ', H', J, rv, q⟩ := hs
    exact ⟨v, H', J.os, J.bare, J.base, J.hok, rv, q⟩
  | next =>
    obtain ⟨σ', H', J, q⟩ := hs
    exact ⟨V.non, H', J.os, J.bare, J.base, J.hok, rfl, q⟩
  | brk =>
    obtain ⟨_, _, _, q⟩ := hs
    exact q.elim
  | cont =>
    obtain ⟨_, _, _, q⟩ := hs
    exact q.elim
end

/-! ### a def's entry, its end -/
section
variable {K : PySem.W.Frag} {io : Option Nat} {oa : Option Addr} {F H F' H' : Hp} {vs : List V} {ds : List D} {N : List Str} {en : En} {σ : L2.St}
theorem start_get {i : Nat} {v : V} (h : vs[i]? = some v) : (start N vs)[i]? = some (some v) := by
  unfold L2.start
  have hl : i < (vs.map some).length := by rw [List.length_map]; exact (List.getElem?_eq_some_iff.mp h).1
  rw [List.getElem?_append_left hl, List.getElem?_map, h]
  rfl
theorem startE_val {n : Nat} {i : Nat} {x : Sv} (h : (ds.map Sv.val ++ List.replicate (n - ds.length) Sv.un)[i]? = some x) : (∃ d, ds[i]? = some d ∧ x = .val d) ∨ x = .un := by
  by_cases hl : i < (ds.map Sv.val).length
  · rw [List.getElem?_append_left hl, List.getElem?_map] at h
    cases q : ds[i]? with
    | none => rw [q] at h; cases h
    | some d =>
      rw [q] at h
      cases h
      exact .inl ⟨d, rfl, rfl⟩
  · rw [List.getElem?_append_right (by omega)] at h
    obtain ⟨hl2, e⟩ := List.getElem?_eq_some_iff.mp h
    rw [List.getElem_replicate] at e
    exact .inr e.symm
theorem start_len (hv : vs.length = ds.length) (hn : ds.length ≤ N.length) : (ds.map Sv.val ++ List.replicate (N.length - ds.length) Sv.un).length = (start N vs).length := by
  unfold L2.start
  simp [hv]
theorem start_fi (sb : Sub F H) (h : ArgsOk K F H io oa vs ds) (hn : ds.length ≤ N.length) : Fi K io F H oa (start N vs) F H (startE N.length io ds) := by
  cases h with
  | plain r =>
    have hv := r.length
    refine ⟨⟨start_len hv hn, sb, fun i d q => ?_, fun i es q => ?_, fun i j es fs a q => ?_⟩, fun _ _ h => h, fun a h => .inl h, fun b o h _ => h, fun i es a q => ?_, fun a e => nomatch e⟩
    · rcases startE_val q with ⟨d', h1, h2⟩ | h2
      · cases h2
        obtain ⟨v, g1, g2⟩ := r.get h1
        exact ⟨v, start_get g1, g2⟩
      · cases h2
    · rcases startE_val q with ⟨d', h1, h2⟩ | h2 <;> cases h2
    · rcases startE_val q with ⟨d', h1, h2⟩ | h2 <;> cases h2
    · rcases startE_val q with ⟨d', h1, h2⟩ | h2 <;> cases h2
  | @io p a xs es v1 v2 d1 d2 hp r1 r2 h1 h2 h3 =>
    have lv := r1.length
    have lw := r2.length
    have hv : (v1 ++ V.ref a :: v2).length = (d1 ++ PyData.list es :: d2).length := by simp [lv, lw]
    have hd : (d1 ++ PyData.list es :: d2)[p]? = some (.list es) := by
      rw [List.getElem?_append_right (by omega), hp]
      simp
    have hva : (v1 ++ V.ref a :: v2)[p]? = some (.ref a) := by
      rw [List.getElem?_append_right (by omega), lv, hp]
      simp
    have other : ∀ (i : Nat) (d : D), i ≠ p → (d1 ++ PyData.list es :: d2)[i]? = some d → ∃ v, (v1 ++ V.ref a :: v2)[i]? = some v ∧ Rp K F v d := fun i d hi q => by
      by_cases hlt : i < d1.length
      · rw [List.getElem?_append_left hlt] at q
        obtain ⟨v, g1, g2⟩ := r1.get q
        exact ⟨v, by rw [List.getElem?_append_left (by omega)]; exact g1, g2⟩
      · rw [List.getElem?_append_right (by omega)] at q
        have e : i - d1.length = (i - d1.length - 1) + 1 := by omega
        rw [e, List.getElem?_cons_succ] at q
        obtain ⟨v, g1, g2⟩ := r2.get q
        refine ⟨v, ?_, g2⟩
        rw [List.getElem?_append_right (by omega), lv, e, List.getElem?_cons_succ]
        exact g1
    have hst : startE N.length (some p) (d1 ++ PyData.list es :: d2) = ((d1 ++ PyData.list es :: d2).map Sv.val ++ List.replicate (N.length - (d1 ++ PyData.list es :: d2).length) Sv.un).set p (.own es) := by
      unfold startE
      simp only [hd]
    have hpl : p < ((d1 ++ PyData.list es :: d2).map Sv.val ++ List.replicate (N.length - (d1 ++ PyData.list es :: d2).length) Sv.un).length := by
      simp only [List.length_append, List.length_map, List.length_cons]
      omega
    rw [hst]
    have own1 : ∀ (i : Nat) (fs : List D), (((d1 ++ PyData.list es :: d2).map Sv.val ++ List.replicate (N.length - (d1 ++ PyData.list es :: d2).length) Sv.un).set p (.own es))[i]? = some (.own fs) → i = p ∧ fs = es := fun i fs q => by
      by_cases e : p = i
      · subst e
        rw [List.getElem?_set_self hpl] at q
        cases q
        exact ⟨rfl, rfl⟩
      · rw [List.getElem?_set_ne e] at q
        rcases startE_val q with ⟨d', g1, g2⟩ | g2 <;> cases g2
    refine ⟨⟨by rw [List.length_set]; exact start_len hv hn, sb, fun i d q => ?_, fun i fs q => ?_, fun i j fs gs b q1 q2 _ _ => ?_⟩, fun _ _ h => h, fun a h => .inl h, fun b o h _ => h, fun i fs b q g => ?_, fun b e => ?_⟩
    · by_cases e : p = i
      · subst e
        rw [List.getElem?_set_self hpl] at q
        cases q
      · rw [List.getElem?_set_ne e] at q
        rcases startE_val q with ⟨d', g1, g2⟩ | g2
        · cases g2
          obtain ⟨v, w1, w2⟩ := other i d (Ne.symm e) g1
          exact ⟨v, start_get w1, w2⟩
        · cases g2
    · obtain ⟨rfl, rfl⟩ := own1 i fs q
      exact ⟨a, xs, start_get hva, h1, h2, h3⟩
    · rw [(own1 i fs q1).1, (own1 j gs q2).1]
    · obtain ⟨rfl, rfl⟩ := own1 i fs q
      rw [start_get hva] at g
      cases g
      exact .inr ⟨rfl, rfl⟩
    · cases e
      exact ⟨p, es, rfl, List.getElem?_set_self hpl, start_get hva⟩
theorem Fi.end (fi : Fi K io F H oa σ F' H' en) {l : List D} (hl : ioOut io en = some l) : FnEnd K F H oa F' H' l := by
  refine ⟨fi.mono, fi.sl.sub, fi.new, fun b o h hb => fi.keep b o h hb, fun a e => ?_⟩
  obtain ⟨p, ds, rfl, h2, h3⟩ := fi.io a e
  obtain ⟨b, xs, g1, g2, g3, g4⟩ := fi.sl.own p ds h2
  rw [h3] at g1
  cases g1
  unfold ioOut at hl
  simp only [h2] at hl
  cases hl
  exact ⟨xs, g2, g3, g4⟩
theorem out_gs {E : XK} {Q : VK} {r : R (Fl × En)} (h : (outD io r).wp (fun q => ∀ F' H' v, FnEnd K F H oa F' H' q.2 → RvEnd K H F' H' v q.1 → Q v H') fun x l => ∀ F' H' cls dd, FnEnd K F H oa F' H' l → ExAt K F' H' x cls dd → E cls dd H') :
    Gs K io F H oa (fun cls dd _ H' => E cls dd H') { nx := fun _ H' => Q .non H', rt := Q } F r := by
  cases r with
  | bad => exact h
  | ex x e =>
    unfold outD at h
    simp only at h
    cases q : ioOut io e with
    | none => rw [q] at h; exact h.elim
    | some l =>
      rw [q] at h
      exact fun σ F' H' cls dd fi _ z => h F' H' cls dd (fi.end q) z
  | ok q =>
    obtain ⟨fl, e⟩ := q
    cases fl with
    | brk => exact h.elim
    | cnt => exact h.elim
    | nx =>
      unfold outD at h
      simp only at h
      cases q : ioOut io e with
      | none => rw [q] at h; exact h.elim
      | some l =>
        rw [q] at h
        exact fun σ F' H' fi _ => h F' H' .non (fi.end q) .non
    | ret v =>
      unfold outD at h
      simp only at h
      cases q : ioOut io e with
      | none => rw [q] at h; exact h.elim
      | some l =>
        rw [q] at h
        exact fun σ F' H' fi _ v rv => h F' H' v (fi.end q) rv
end

/-! ### all defs -/
def fnOfL (fs : List Fn) (f : Nat) : Str := ((fs[f]?).map (·.name)).getD ""
def cstOfL (cs : List (Str × D)) (g : Nat) : Str := ((cs[g]?).map (·.1)).getD ""
def cstDL (cs : List (Str × D)) (g : Nat) : D := ((cs[g]?).map (·.2)).getD .none
abbrev nmOf (fs : List Fn) (cs : List (Str × D)) (F : Fn) : Nm := ⟨fnOfL fs, cstOfL cs, F.N⟩
abbrev psOf (F : Fn) : List Str := F.N.take F.np
/-- the text as the top has left it, by its terms -/
structure Txt (K : PySem.W.Frag) (mg : Str → Option Value) (wh : Wh) (fs : List Fn) (cs : List (Str × D)) : Prop where
  nf : wh.nf = fs.length
  np : ∀ f F, fs[f]? = some F → wh.np f = F.np
  fn : ∀ f F, fs[f]? = some F → F.np ≤ F.N.length ∧ ∃ (fa : Addr) (fd : FuncData) (x qual : Str) (params : Arguments) (sc : Scope) (dvs : List V) (kws : List (Str × V)), FnScope F.N (psOf F) sc ∧ chSs (nmOf fs cs F) wh sc F.body = true ∧ FunD K x qual params (astSs (nmOf fs cs F) F.body) sc dvs kws fa fd ∧ mg F.name = some (.ref fa) ∧ Binds K fd (psOf F) [] ∧
    ∀ q ∈ wh.kb, q.1 = f → (∀ {us ws : List Value}, us.length = q.2.1 → ws.length = q.2.2.1.length → (permD (us ++ ws) q.2.2.2).isSome = true) ∧ KBn K fd (psOf F) q.2.1 q.2.2.1 (permV q.2.2.2) (permV q.2.2.2)
  csts : ∀ g, g < wh.nc → ∃ v u, mg (cstOfL cs g) = some u ∧ RelV v u ∧ ∀ F, Rp K F v (cstDL cs g)
  bi : ∀ f : Bi, f ≠ .gcd → mg f.name = none
  ty : ∀ t : Tn, mg (Str.ofString t.name) = none
  oth : mg "isinstance" = none ∧ mg "range" = none ∧ mg "zip" = none ∧ mg "enumerate" = none
  gcd : wh.gcd = true → mg "gcd" = some (.builtin "math.gcd")
  kc : ∀ c ∈ wh.ks, KcOk K mg c
  k0 : ∀ c ∈ wh.k0, K0Ok K mg c
  cl : ∀ q ∈ wh.cl, ClOk K q
section
variable {P : Program} {w : World} {K : PySem.W.Frag} {mg : Str → Option Value} {base : Heap} {wh : Wh} {fs : List Fn} {cs : List (Str × D)}
/-- each def keeps the promise of what it is worth -/
theorem all_fn (T : Txt K mg wh fs cs) (hsm : SmB base) : ∀ (n f : Nat) (F : Fn), fs[f]? = some F → ∀ (fa : Addr) (fd : FuncData) (x qual : Str) (params : Arguments) (sc : Scope) (dvs : List V) (kws : List (Str × V)), FnScope F.N (psOf F) sc → chSs (nmOf fs cs F) wh sc F.body = true → FunD K x qual params (astSs (nmOf fs cs F) F.body) sc dvs kws fa fd → F.np ≤ F.N.length →
    FnG P w K mg base (L2.CX P w) n fa fd (psOf F) (spD K F.io F.np (run fs (cstDL cs) n f))
  | 0, f, F, hF, fa, fd, x, qual, params, sc, dvs, kws, S, hc, Fd, hnp => by
    refine ⟨fun vs H Q E h => ?_, fun A outer s H args us vs Q E _ _ _ _ _ h => ?_⟩
    · obtain ⟨F', ds, oa, hl, _⟩ := h
      rw [hl, List.length_take]
      omega
    · obtain ⟨F', ds, oa, hl, _, _, h⟩ := h
      exact h.elim
  | n + 1, f, F, hF, fa, fd, x, qual, params, sc, dvs, kws, S, hc, Fd, hnp => by
    refine fnG_of Fd S (fun vs H Q E h => ?_) fun cdv A outer s H vs Q E hr hg h => ?_
    · obtain ⟨F', ds, oa, hl, _⟩ := h
      rw [hl, List.length_take]
      omega
    · refine ⟨tS K F.io (Classical.choose h) H (Classical.choose (Classical.choose_spec (Classical.choose_spec h))) (fun cls dd _ H' => E cls dd H') (evSs (fnSc fs (cstDL cs) F.io (run fs (cstDL cs) n)) F.body), ?_, ?_⟩
      · have tx : Tx P w K mg base n wh (fnOfL fs) (cstOfL cs) (fnSc fs (cstDL cs) F.io (run fs (cstDL cs) n)) := by
          refine ⟨fun g hg => ?_, T.csts, T.bi, T.ty, T.oth, T.gcd, hsm, T.kc, T.k0, T.cl⟩
          rw [T.nf] at hg
          have hG : fs[g]? = some fs[g] := List.getElem?_eq_getElem hg
          obtain ⟨k1, fa', fd', x', qual', params', sc', dvs', kws', k2, k3, k4, k5, k6, k7⟩ := T.fn g _ hG
          have ih := all_fn T hsm n g _ hG fa' fd' x' qual' params' sc' dvs' kws' k2 k3 k4 k1
          have e1 := T.np g _ hG
          have e2 : (fnSc fs (cstDL cs) F.io (run fs (cstDL cs) n)).sio g = (fs[g]).io := by
            show (fs[g]?).bind (·.io) = _
            rw [hG]
            rfl
          have e3 : fnOfL fs g = (fs[g]).name := by
            unfold fnOfL
            rw [hG]
            rfl
          refine ⟨fa', fd', psOf fs[g], ?_, ?_, ?_, k4.kp, k6, k7⟩
          · rw [e1, List.length_take]
            omega
          · rw [e2, e1]
            exact ih
          · rw [e3]
            exact k5
        have C : Cs (cxOf (L2.CX P w) P w K mg base F.N qual sc fa cdv A outer s H E) n (fun cls dd _ H' => E cls dd H') wh (nmOf fs cs F) (fnSc fs (cstDL cs) F.io (run fs (cstDL cs) n)) :=
          ⟨⟨⟨rfl, hr, hg⟩, tx, rfl, S.nd, takes_of rfl rfl rfl rfl⟩, S.kind, passes_of rfl, fun _ => rfl, rfl, rfl⟩
        exact snd_ss C F.body hc
      · have h2 := Classical.choose_spec (Classical.choose_spec (Classical.choose_spec h))
        generalize Classical.choose (Classical.choose_spec (Classical.choose_spec h)) = oa at h2 ⊢
        generalize Classical.choose (Classical.choose_spec h) = ds at h2 ⊢
        generalize Classical.choose h = F0 at h2 ⊢
        obtain ⟨hl, sb, ar, hw⟩ := h2
        unfold run at hw
        rw [hF] at hw
        simp only at hw
        obtain ⟨hb, hw⟩ := Res.wp_need hw
        obtain ⟨hb1, hb2⟩ := and2 hb
        have hb1 : ds.length = F.np := of_decide_eq_true hb1
        exact ⟨F0, startE F.N.length F.io ds, start_fi sb ar (by omega), out_gs hw⟩
end
end Mp

end

section
namespace Mp
open PySem PySem.Spec PyProof.Rows L2

/-! ### the law's call, where no guard runs -/
theorem call_law {P : Program} {w : World} {K : PySem.W.Frag} {mg mb : Str → Option Value} {k : Nat} {fa a : Addr} {fd : FuncData} {x : Str} {sp : Sp} {s₁ : Shared} {vs : List Value} {ns : List Int}
    (KX : K.In s₁.heap) (hns : s₁.heap.Ns mainGlobals mg) (hb : s₁.heap.Ns builtinsNs mb) (hbb : ∀ x : Str, x ≠ "__name__" → mb x = bootBuiltins x) (hlim : s₁.heap.NoLimit) (hg : s₁.gens = #[])
    (ha : s₁.heap.get? a = some { cls := .type "list", data := .seq vs.toArray }) (hi : IntsAre vs ns) (hl : ns.length ≤ sizeLine) (hr : Room k callerA)
    (hsm : SmB s₁.heap) (F : ∀ base : Heap, SmB base → FnG P w K mg base (L2.CX P w) k fa fd [x] sp) (hbind : ∀ (s : Shared) (u : Value), BindsTo s fd ⟨[u], []⟩ [(x, u)])
    (hsp : ∀ H : Hp, SqL K H a (ns.map V.int) → sp [.ref a] H (fun v _ => v = .bl true) fun _ _ _ => False) :
    codeAny (model P w) callerA (.call (.ref fa) ⟨[.ref a], []⟩) (fun r s' => r = .ok (.ret (.bool true)) ∧ OldK s₁.heap s'.heap ∧ s'.os = s₁.os ∧ AllBare s'.gens) s₁ := by
  have rv := vals_ints hi
  have lenV := hi.length
  -- any tracked heap that holds the script at most
  have core : ∀ H : Hp, (∀ b u, H b = some u → b = a ∧ K.lookup a = none ∧ ∃ o xs, u = .frz o (.lst xs)) → SqL K H a (ns.map V.int) → HOk P w H s₁.heap →
      codeAny (model P w) callerA (.call (.ref fa) ⟨[.ref a], []⟩) (fun r s' => r = .ok (.ret (.bool true)) ∧ OldK s₁.heap s'.heap ∧ s'.os = s₁.os ∧ AllBare s'.gens) s₁ := by
    intro H hO hS hok
    have stay : ∀ {b : Addr} {o : Obj}, s₁.heap.get? b = some o → (b = a → K.lookup a ≠ none ∨ ∀ xs n, o.data ≠ .seq xs n) → (hidT s₁.heap H).get? b = some o := fun {b o} e h => hidT_get e (by
      cases q : H b with
      | none => rfl
      | some u =>
        obtain ⟨rfl, hk, _⟩ := hO b u q
        rcases h rfl with z | z
        · exact absurd hk z
        · rw [ha] at e
          cases e
          exact absurd rfl (z _ _))
    have nsK : ∀ {b : Addr} {m : Str → Option Value}, s₁.heap.Ns b m → (hidT s₁.heap H).Ns b m := fun {b m} ⟨o, es, ep, e, d, r⟩ => ⟨o, es, ep, stay e (fun _ => .inr fun xs n z => by rw [d] at z; exact nomatch z), d, r⟩
    have hKb : K.In (hidT s₁.heap H) := fun b o e => stay (KX b o e) fun z => .inl (by rw [← z, e]; exact fun z => nomatch z)
    have e0 : Env0 P w K mg (hidT s₁.heap H) callerA [] s₁ H := ⟨rfl, ⟨hKb, nsK hns, ⟨mb, nsK hb, hbb⟩, let ⟨mc, h1, h2⟩ := hlim; ⟨mc, nsK h1, h2⟩⟩, fun b o e => of_hidT e, Nat.le_of_eq (hidT_size _ _), trivial, fun b hb => absurd (show b ∈ ([] : List Addr) from hb) (by simp), hok, .of_eq hg⟩
    have hs2 : SmB (hidT s₁.heap H) := let ⟨o, h1, h2⟩ := hsm; ⟨o, stay h1 fun z => by
      rw [z, ha] at h1
      cases h1
      exact absurd (Value.type.inj h2) (by decide), h2⟩
    refine codeAny_mono ((F (hidT s₁.heap H) hs2).run callerA [] s₁ H ⟨[.ref a], []⟩ [.ref a] [.ref a] _ _ hr rfl e0 (hbind s₁ (.ref a)) (.cons rfl .nil) (hsp H hS)) fun r s' h => ?_
    cases r with
    | error e =>
      obtain ⟨_, _, _, _, _, _, _, _, _, _, _, _, z⟩ := h
      exact z.elim
    | ok fl =>
      cases fl with
      | next => exact h.elim
      | brk => exact h.elim
      | cont => exact h.elim
      | ret u =>
        obtain ⟨v, H', os, bare, un, hok', r', q⟩ := h
        have q : v = .bl true := q
        subst q
        obtain rfl : u = Value.bool true := r'
        refine ⟨rfl, OldK.of_keep fun b o e => ?_, os, bare⟩
        cases q : H b with
        | none => exact un.keep b o e q (fun z => absurd (show b ∈ ([] : List Addr) from z) (by simp)) (by simp)
        | some u =>
          obtain ⟨_, _, ob, xs, rfl⟩ := hO b u q
          obtain ⟨e1, _⟩ := hok b _ q
          obtain ⟨e2, _⟩ := hok' b _ (un.frzs b ob _ q)
          rw [e] at e1
          cases e1
          exact e2
  cases hk : K.lookup a with
  | some o =>
    have e := KX a o hk
    rw [ha] at e
    cases e
    exact core (fun _ => none) (fun b u z => nomatch z) (.inr ⟨_, vs.toArray, _, hk, rfl, rfl, rfl, by rw [List.size_toArray, lenV]; exact hl, by simpa using rv⟩) fun b u z => nomatch (show (none : Option HO) = some u from z)
  | none =>
    have at_ : ∀ {b : Addr} {u : HO}, (if b = a then some (HO.frz { cls := .type "list", data := .seq vs.toArray } (.lst (ns.map V.int))) else none) = some u → b = a ∧ u = .frz { cls := .type "list", data := .seq vs.toArray } (.lst (ns.map V.int)) := fun {b u} z => by
      by_cases hb : b = a
      · rw [if_pos hb] at z
        cases z
        exact ⟨hb, rfl⟩
      · rw [if_neg hb] at z
        cases z
    refine core (fun b => if b = a then some (.frz { cls := .type "list", data := .seq vs.toArray } (.lst (ns.map V.int))) else none) (fun b u z => ?_) (.inl (.inr ⟨_, if_pos rfl⟩)) fun b u z => ?_
    · obtain ⟨h1, h2⟩ := at_ z
      exact ⟨h1, hk, _, _, h2⟩
    · obtain ⟨rfl, rfl⟩ := at_ z
      exact ⟨ha, by rw [List.length_map]; exact hl, vs, _, rv, ha⟩
/-- the goal that the head leaves -/
theorem walk_mp {l : PySem.W.OpenLaw} {n k : Nat} {q : Program} {loose : List Str} {XP : (Str → Option Value) → Heap → Prop} {YP : World → Heap → Prop} {d : DefRec} {x : Str}
    (hn : l.most = some n) (hn2 : n ≤ sizeLine) (hdf : d.params.defaults = []) (hr : Room k callerA)
    (F : ∀ (w : World) (mg : Str → Option Value) (fa : Addr) (h : Heap), YP w h → h.Ns mainGlobals mg → mg d.name = some (.ref fa) →
      ∃ (K : PySem.W.Frag) (fd : FuncData) (sp : Sp), K.In h ∧ SmB h ∧ (∀ (s : Shared) (u : Value), BindsTo s fd ⟨[u], []⟩ [(x, u)]) ∧
        (∀ (H : Hp) (a : Addr) (ns : List Int), ns.length ≤ n → SqL K H a (ns.map V.int) → sp [.ref a] H (fun v _ => v = .bl true) fun _ _ _ => False) ∧
        ∀ base : Heap, SmB base → FnG l.prog w K mg base (L2.CX l.prog w) k fa fd [x] sp) :
    PySem.W.WalkO q loose XP YP l.row.toRowW d [] (fun f vs => PySem.call f vs) := by
  refine Att.attach_call hn hdf fun w s₀ s₁ mg mb fa o pm cd doc a vs ns G Y ho hd hcd hmg hobj hints hlen hg => ?_
  obtain ⟨K, fd, sp, KX, hsm, hb, hsp, hF⟩ := F w mg fa _ Y G.T.g hmg
  exact call_law KX G.T.g G.T.b G.T.builtins G.T.nolimit hg hobj hints (Nat.le_trans hlen hn2) hr hsm hF hb fun H hS => hsp H a ns hlen hS
/-- what the law's def is to be worth -/
def LawOk (fs : List Fn) (cs : List (Str × D)) (f n k : Nat) : Prop := ∀ ns : List Int, ns.length ≤ n → ∃ l, run fs (cstDL cs) k f [.list (ns.map .int)] = .ok (.val (.bool true), l)
theorem law_sp {K : PySem.W.Frag} {fs : List Fn} {cs : List (Str × D)} {f n k : Nat} (h : LawOk fs cs f n k) {H : Hp} {a : Addr} {ns : List Int} (hl : ns.length ≤ n) (hS : SqL K H a (ns.map V.int)) : spD K none 1 (run fs (cstDL cs) k f) [.ref a] H (fun v _ => v = .bl true) fun _ _ _ => False := by
  obtain ⟨l, e⟩ := h ns hl
  refine ⟨H, [.list (ns.map .int)], none, rfl, fun _ _ h => h, .plain (.cons (.lst hS (RpAll.of_ints ns)) .nil), ?_⟩
  rw [e]
  intro F' H' v _ hv
  have hv : Rp K F' v (.bool true) := hv
  cases hv
  rfl
end Mp

end

section
namespace Mp
open PySem PySem.Spec PyProof.Rows L2

/-! ### constants of the top -/
mutual
def rpB (K : PySem.W.Frag) : Nat → Value → D → Bool
  | _, .none, .none => true
  | _, .bool b, .bool c => b == c
  | _, .int i _, .int j => decide (i = j)
  | _, .str x _, .str y => decide (x = y)
  | n + 1, .ref a, .tuple ds => (match K.lookup a with
    | some ⟨.type c, _, .seq its _, _⟩ => decide (c = "tuple") && (decide (its.size ≤ sizeLine) && rpAllB K n its.toList ds)
    | _ => false)
  | n + 1, .ref a, .list ds => (match K.lookup a with
    | some ⟨.type c, none, .seq its _, _⟩ => decide (c = "list") && (decide (its.size ≤ sizeLine) && rpAllB K n its.toList ds)
    | _ => false)
  | _, _, _ => false
def rpAllB (K : PySem.W.Frag) : Nat → List Value → List D → Bool
  | _, [], [] => true
  | n, u :: us, d :: ds => rpB K n u d && rpAllB K n us ds
  | _, _, _ => false
end
section
variable {K : PySem.W.Frag}
def RpC (K : PySem.W.Frag) (u : Value) (d : D) : Prop := ∃ v, RelV v u ∧ ∀ F, Rp K F v d
theorem rpAll_of {n : Nat} (ih : ∀ u d, rpB K n u d = true → RpC K u d) : ∀ {us : List Value} {ds : List D}, rpAllB K n us ds = true → ∃ vs, Vals vs us ∧ ∀ F, RpAll K F vs ds
  | [], [], _ => ⟨[], .nil, fun _ => .nil⟩
  | u :: us, d :: ds, h => by
    unfold rpAllB at h
    obtain ⟨h1, h2⟩ := and2 h
    obtain ⟨v, r, q⟩ := ih u d h1
    obtain ⟨vs, rs, qs⟩ := rpAll_of ih h2
    exact ⟨v :: vs, .cons r rs, fun F => .cons (q F) (qs F)⟩
  | [], _ :: _, h => by unfold rpAllB at h; cases h
  | _ :: _, [], h => by unfold rpAllB at h; cases h
theorem rpB_ok : ∀ (n : Nat) (u : Value) (d : D), rpB K n u d = true → RpC K u d := by
  intro n
  induction n with
  | zero =>
    intro u d h
    unfold rpB at h
    split at h
    · exact ⟨.non, rfl, fun _ => .non⟩
    · rename_i b c
      have e : b = c := by simpa using h
      subst e
      exact ⟨.bl b, rfl, fun _ => .bl b⟩
    · rename_i i t j
      have e : i = j := of_decide_eq_true h
      subst e
      exact ⟨.int i, ⟨t, rfl⟩, fun _ => .int i⟩
    · rename_i x t y
      have e : x = y := of_decide_eq_true h
      subst e
      exact ⟨.str x, ⟨t, rfl⟩, fun _ => .str x⟩
    · rename_i hn
      exact nomatch hn
    · rename_i hn
      exact nomatch hn
    · cases h
  | succ n ih =>
    intro u d h
    unfold rpB at h
    split at h
    · exact ⟨.non, rfl, fun _ => .non⟩
    · rename_i b c
      have e : b = c := by simpa using h
      subst e
      exact ⟨.bl b, rfl, fun _ => .bl b⟩
    · rename_i i t j
      have e : i = j := of_decide_eq_true h
      subst e
      exact ⟨.int i, ⟨t, rfl⟩, fun _ => .int i⟩
    · rename_i x t y
      have e : x = y := of_decide_eq_true h
      subst e
      exact ⟨.str x, ⟨t, rfl⟩, fun _ => .str x⟩
    · rename_i m a ds hm
      split at h
      · rename_i c od its k sl q
        obtain ⟨h1, h4⟩ := and2 h
        obtain ⟨h2, h3⟩ := and2 h4
        cases hm
        obtain ⟨vs, r, qs⟩ := rpAll_of ih h3
        exact ⟨.ref a, rfl, fun F => .tup (.inr ⟨_, its, k, q, congrArg Value.type (of_decide_eq_true h1), rfl, of_decide_eq_true h2, r⟩) (qs F)⟩
      · cases h
    · rename_i m a ds hm
      split at h
      · rename_i c its k sl q
        obtain ⟨h1, h4⟩ := and2 h
        obtain ⟨h2, h3⟩ := and2 h4
        cases hm
        obtain ⟨vs, r, qs⟩ := rpAll_of ih h3
        exact ⟨.ref a, rfl, fun F => .lst (.inr ⟨_, its, k, q, congrArg Value.type (of_decide_eq_true h1), rfl, rfl, of_decide_eq_true h2, r⟩) (qs F)⟩
      · cases h
    · cases h
end
def csB (K : PySem.W.Frag) (p : Str × D) : Bool := match PySem.W.nsIn K mainGlobals p.1 with
  | some (some u) => rpB K 12 u p.2
  | _ => false
theorem csB_ok {K : PySem.W.Frag} {h : Heap} {mg : Str → Option Value} (X : K.In h) (G : h.Ns mainGlobals mg) {p : Str × D} (c : csB K p = true) : ∃ v u, mg p.1 = some u ∧ RelV v u ∧ ∀ F, Rp K F v p.2 := by
  unfold csB at c
  split at c
  · rename_i u q
    obtain ⟨v, r, z⟩ := rpB_ok _ _ _ c
    exact ⟨v, u, PySem.W.mg_of X G q, r, z⟩
  · cases c
def gcdB (K : PySem.W.Frag) : Bool := match PySem.W.nsIn K mainGlobals "gcd" with
  | some (some (.builtin id)) => decide (id = "math.gcd")
  | _ => false
theorem gcdB_ok {K : PySem.W.Frag} (h : gcdB K = true) : PySem.W.nsIn K mainGlobals "gcd" = some (some (.builtin "math.gcd")) := by
  unfold gcdB at h
  split at h
  · rename_i id q
    have e : id = "math.gcd" := of_decide_eq_true h
    rw [q, e]
  · cases h
def smG (g : Addr → Option Obj) : Bool := match g sysModules with
  | some ⟨.type c, _, _, _⟩ => decide (c = "dict")
  | _ => false
theorem smG_ok {h : Heap} (e : smG h.get? = true) : SmB h := by
  unfold smG at e
  split at e
  · rename_i q
    exact ⟨_, q, congrArg Value.type (of_decide_eq_true e)⟩
  · cases e
/-- what the head looks at -/
def obsY (n : Nat) (fa : List He.Fa) (fn : List He.DefD) (ex : PySem.W.Frag → Bool) (g : Addr → Option Obj) : He.AlX × Bool := (He.obsX n fa fn [] [] ex g, smG g)
def hookY (n : Nat) (fa : List He.Fa) (fn : List He.DefD) (ex : PySem.W.Frag → Bool) : PySem.W.Hook where
  α := He.AlX × Bool
  obs := fun s => obsY n fa fn ex s.heap.get?
  val := fun w => (He.valX fn [] w, true)
  says := fun w h => (He.hookX n fa fn [] [] ex).says w h ∧ SmB h
  of := fun w s e => ⟨(He.hookX n fa fn [] [] ex).of w s (congrArg Prod.fst e), smG_ok (congrArg Prod.snd e)⟩
  keeps := fun w h h' ⟨a, o, q, c⟩ k => ⟨(He.hookX n fa fn [] [] ex).keeps w h h' a k, o, k _ _ q, c⟩
theorem obsY_eq {n : Nat} {fa : List He.Fa} {fn : List He.DefD} {ex : PySem.W.Frag → Bool} {g : Addr → Option Obj} {s : Shared} (h : ∀ a, g a = s.heap.get? a) : obsY n fa fn ex g = (hookY n fa fn ex).obs s := by
  have e : g = s.heap.get? := funext h
  rw [e] <;> rfl
/-- the one Bool that the head looks at -/
def exB (cs : List (Str × D)) (wh : Wh) (K : PySem.W.Frag) : Bool := cs.all (csB K) && ((!wh.gcd || gcdB K) && (wh.ks.all (kcB K) && (wh.k0.all (k0B K) && wh.cl.all (clB K))))

/-! ### the calls by keywords -/
theorem vals_get : ∀ {vs : List V} {us : List Value} {i : Nat} {u : Value}, Vals vs us → us[i]? = some u → ∃ v, vs[i]? = some v ∧ RelV v u
  | _, _, 0, _, .cons r _, h => by
    simp at h
    subst h
    exact ⟨_, rfl, r⟩
  | _, _, i + 1, u, .cons _ rr, h => by
    obtain ⟨v, h1, h2⟩ := vals_get (i := i) rr (by simpa using h)
    exact ⟨v, by simpa using h1, h2⟩
  | _, _, _, _, .nil, h => by simp at h
theorem vals_perm {vs : List V} {us : List Value} (r : Vals vs us) : ∀ {pm : List Nat} {l : List Value}, permD us pm = some l → ∃ k, permD vs pm = some k ∧ Vals k l
  | [], l, h => by
    cases h
    exact ⟨[], rfl, .nil⟩
  | i :: pm, l, h => by
    unfold permD at h
    cases q : us[i]? with
    | none => rw [q] at h; cases h
    | some u =>
      rw [q] at h
      have h : (permD us pm).map (u :: ·) = some l := h
      cases q2 : permD us pm with
      | none => rw [q2] at h; cases h
      | some l' =>
        rw [q2] at h
        cases h
        obtain ⟨v, h1, h2⟩ := vals_get r q
        obtain ⟨k, h3, h4⟩ := vals_perm r q2
        refine ⟨v :: k, ?_, .cons h2 h4⟩
        unfold permD
        rw [h1, h3]
        rfl
theorem permD_some {α : Type} {l : List α} : ∀ {pm : List Nat}, (pm.all fun i => decide (i < l.length)) = true → (permD l pm).isSome = true
  | [], _ => rfl
  | i :: pm, h => by
    rw [List.all_cons, Bool.and_eq_true] at h
    have hi : i < l.length := of_decide_eq_true h.1
    have ih := permD_some (l := l) (pm := pm) h.2
    unfold permD
    rw [List.getElem?_eq_getElem hi]
    cases q : permD l pm with
    | none => rw [q] at ih; cases ih
    | some k => rfl
theorem vals_app {vs ws : List V} {us zs : List Value} (h : Vals vs us) (g : Vals ws zs) : Vals (vs ++ ws) (us ++ zs) := by
  induction h with
  | nil => exact g
  | cons r _ ih => exact .cons r ih
theorem kbn_of {K : PySem.W.Frag} {fd : FuncData} {ps ks : List Str} {n : Nat} {pm : List Nat} (hp : (pm.all fun i => decide (i < n + ks.length)) = true) (h : ∀ us ws : List Value, us.length = n → ws.length = ks.length → bindArgs fd ⟨us, ks.zip ws⟩ = pure (ps.zip (permV pm us ws))) :
    (∀ {us ws : List Value}, us.length = n → ws.length = ks.length → (permD (us ++ ws) pm).isSome = true) ∧ KBn K fd ps n ks (permV pm) (permV pm) := by
  have hs : ∀ {us ws : List Value}, us.length = n → ws.length = ks.length → (permD (us ++ ws) pm).isSome = true := fun {us ws} h1 h2 => permD_some (by rw [List.length_append, h1, h2]; exact hp)
  refine ⟨hs, ⟨fun s us ws _ h1 h2 => .of_eq (h us ws h1 h2), fun {vs us zs ws} r1 r2 => ?_⟩⟩
  cases q : permD (us ++ ws) pm with
  | some l =>
    obtain ⟨k, e, r⟩ := vals_perm (vals_app r1 r2) q
    rw [permV_of q, permV_of e]
    exact r
  | none =>
    have q2 : permD (vs ++ zs) pm = none := by
      cases z : permD (vs ++ zs) pm with
      | none => rfl
      | some k =>
        exfalso
        -- the lengths are the same: what is there for the ones is there for the others
        have len : (vs ++ zs).length = (us ++ ws).length := (vals_app r1 r2).length
        have key : ∀ {pm : List Nat} {k : List V}, permD (vs ++ zs) pm = some k → (permD (us ++ ws) pm).isSome = true := by
          intro pm
          induction pm with
          | nil => intro k _; rfl
          | cons i pm ih =>
            intro k h
            unfold permD at h
            cases q1 : (vs ++ zs)[i]? with
            | none => rw [q1] at h; cases h
            | some v =>
              rw [q1] at h
              have h : (permD (vs ++ zs) pm).map (v :: ·) = some k := h
              cases q2 : permD (vs ++ zs) pm with
              | none => rw [q2] at h; cases h
              | some k' =>
                have ih := ih q2
                have hi : i < (us ++ ws).length := by rw [← len]; exact (List.getElem?_eq_some_iff.mp q1).1
                unfold permD
                rw [List.getElem?_eq_getElem hi]
                cases q3 : permD (us ++ ws) pm with
                | none => rw [q3] at ih; cases ih
                | some _ => rfl
        have := key z
        rw [q] at this
        cases this
    unfold permV
    rw [q, q2]
    exact .nil

/-! ### the text's data -/
/-- all that a def's row of checks says -/
structure DefOk (wh : Wh) (fs : List Fn) (cs : List (Str × D)) (f : Nat) (F : Fn) (st : Stmt) : Prop where
  npw : wh.np f = F.np
  np : F.np ≤ F.N.length
  sc : FnScope F.N (psOf F) (defScope st)
  ch : chSs (nmOf fs cs F) wh (defScope st) F.body = true
  ast : astSs (nmOf fs cs F) F.body = defBody st
  bd : ∀ (kV doc pm : Value) (an : Option Addr) (cdv ct : Value) (us : List Value), us.length = (psOf F).length → bindArgs (PySem.W.fnOf F.name F.name (defArgs st) (defBody st) (defScope st) .none kV doc pm an cdv ct) ⟨us, []⟩ = pure ((psOf F).zip us)
  kb : ∀ q ∈ wh.kb, q.1 = f → (q.2.2.2.all fun i => decide (i < q.2.1 + q.2.2.1.length)) = true ∧ ∀ (kV doc pm : Value) (an : Option Addr) (cdv ct : Value) (us ws : List Value), us.length = q.2.1 → ws.length = q.2.2.1.length →
    bindArgs (PySem.W.fnOf F.name F.name (defArgs st) (defBody st) (defScope st) .none kV doc pm an cdv ct) ⟨us, q.2.2.1.zip ws⟩ = pure ((psOf F).zip (permV q.2.2.2 us ws))
inductive DefsOk (wh : Wh) (fs : List Fn) (cs : List (Str × D)) : Nat → List (Fn × Stmt) → Prop
  | nil (n : Nat) : DefsOk wh fs cs n []
  | cons {n : Nat} {F : Fn} {st : Stmt} {r : List (Fn × Stmt)} : DefOk wh fs cs n F st → DefsOk wh fs cs (n + 1) r → DefsOk wh fs cs n ((F, st) :: r)
theorem DefsOk.get {wh : Wh} {fs : List Fn} {cs : List (Str × D)} : ∀ {n : Nat} {l : List (Fn × Stmt)} {i : Nat} {F : Fn}, DefsOk wh fs cs n l → (l.map (·.1))[i]? = some F → ∃ st, DefOk wh fs cs (n + i) F st ∧ (F, st) ∈ l
  | n, _, i, F, .nil _, h => by simp at h
  | n, _, 0, F, .cons d r, h => by
    simp at h
    subst h
    exact ⟨_, d, List.mem_cons_self ..⟩
  | n, _, i + 1, F, .cons d r, h => by
    obtain ⟨st, h1, h2⟩ := DefsOk.get (i := i) r (by simpa using h)
    have e : n + 1 + i = n + (i + 1) := by omega
    rw [e] at h1
    exact ⟨st, h1, List.mem_cons_of_mem _ h2⟩
def mkD (p : Fn × Stmt) : He.DefD := ⟨(p.1.name, none), p.1.name, p.1.name, defArgs p.2, defBody p.2, defScope p.2, [], []⟩
def freeNames : List Str := ["len", "abs", "int", "min", "max", "tuple", "list", "divmod", "repr", "all", "any", "sum", "bool", "str", "dict", "isinstance", "range", "zip", "enumerate"]
def faOf (l : List (Fn × Stmt)) : List He.Fa := l.map (fun p => He.Fa.glo p.1.name) ++ freeNames.map He.Fa.free
theorem txt_of {w : World} {K : PySem.W.Frag} {h : Heap} {mg : Str → Option Value} {wh : Wh} {cs : List (Str × D)} {l : List (Fn × Stmt)} (X : K.In h) (G : h.Ns mainGlobals mg) (c : He.SaysX (faOf l) (l.map mkD) [] [] (exB cs wh) w h K)
    (hd : DefsOk wh (l.map (·.1)) cs 0 l) (hnf : wh.nf = l.length) (hnc : wh.nc = cs.length) : Txt K mg wh (l.map (·.1)) cs := by
  obtain ⟨e1, e2⟩ := and2 c.more
  obtain ⟨e2, e3⟩ := and2 e2
  obtain ⟨e3, e4⟩ := and2 e3
  obtain ⟨e4, e5⟩ := and2 e4
  have fr : ∀ x, x ∈ freeNames → mg x = none := fun x hx => He.free_ok X G (c.t.d.facts (List.mem_append_right _ (List.mem_map_of_mem hx)))
  refine ⟨by rw [hnf, List.length_map], fun f F hF => ?_, fun f F hF => ?_, fun g hg => ?_, fun f hf => ?_, fun t => ?_, ⟨fr _ (by decide), fr _ (by decide), fr _ (by decide), fr _ (by decide)⟩, fun hg => ?_, fun c hc => kcB_ok X G (List.all_eq_true.mp e3 c hc), fun c hc => k0B_ok X G (List.all_eq_true.mp e4 c hc), fun q hq => clB_ok (List.all_eq_true.mp e5 q hq)⟩
  · obtain ⟨st, d, _⟩ := hd.get hF
    rw [Nat.zero_add] at d
    exact d.npw
  · obtain ⟨st, d, hm⟩ := hd.get hF
    rw [Nat.zero_add] at d
    obtain ⟨fd, Fd⟩ := c.t.d.defs (d := mkD (F, st)) (List.mem_map_of_mem hm)
    have Fd : FunD K F.name F.name (defArgs st) (defBody st) (defScope st) [] [] (He.fAd K (F.name, none)) fd := Fd
    have gl := He.glo_ok X G (c.t.d.facts (f := .glo F.name) (List.mem_append_left _ (List.mem_map.mpr ⟨(F, st), hm, rfl⟩)))
    refine ⟨d.np, He.fAd K (F.name, none), fd, F.name, F.name, defArgs st, defScope st, [], [], d.sc, d.ch, by rw [d.ast]; exact Fd, gl, Fd.bindsN d.bd, fun q hq e => ?_⟩
    obtain ⟨k1, k2⟩ := d.kb q hq e
    obtain ⟨oc, od, dV, kV, doc, pm, an, cdv, ct, osl, rfl, lk, hcd, hD, hK⟩ := Fd.ex
    rcases hD with ⟨_, rfl⟩ | ⟨z, _⟩
    · exact kbn_of k1 (k2 kV doc pm an cdv ct)
    · exact absurd rfl z
  · rw [hnc] at hg
    have h1 := csB_ok X G (List.all_eq_true.mp e1 cs[g] (List.getElem_mem hg))
    unfold cstOfL cstDL
    rw [List.getElem?_eq_getElem hg]
    exact h1
  · cases f <;> first | exact absurd rfl hf | exact fr _ (by decide)
  · cases t <;> exact fr _ (by decide)
  · rw [hg] at e2
    exact PySem.W.mg_of X G (gcdB_ok e2)
end Mp

end

section
namespace Mp
open PySem PySem.Spec PyProof.Rows L2

/-! ### a statement by its place -/
def noS : Stmt := .Pass ⟨0, 0, 0, 0⟩
def blkOf : Stmt → Nat → List Stmt
  | .If _ a _ _, 0 => a
  | .If _ _ b _, _ => b
  | .For _ _ b _ _, _ => b
  | .While _ b _ _, _ => b
  | .Try b _ _ _ _, _ => b
  | _, _ => []
def atS : List Stmt → List (Nat × Nat) → Nat → Stmt
  | ss, [], i => ss.getD i noS
  | ss, (i, b) :: r, j => atS (blkOf (ss.getD i noS) b) r j
end Mp

end

section
namespace Mp
open PySem PySem.Spec PyProof.Rows L2

/-! ### reckoning by simp: each lemma wants a state that is told, so that what comes later stays closed -/
section
variable {ε α β γ : Type}
/-- bind, get, need: closed to simp but at what is told -/
def Res.bd (r : Res ε α) (k : α → Res ε β) : Res ε β := r.bind k
def Res.gt (o : Option α) : Res ε α := Res.get o
def Res.nd (b : Bool) (r : Res ε α) : Res ε α := Res.need b r
@[simp] theorem rb_ok (a : α) (k : α → Res ε β) : (Res.ok a : Res ε α).bd k = k a := rfl
@[simp ↓] theorem rb_ok' (a : α) (k : α → Res ε β) : (Res.ok a : Res ε α).bd k = k a := rfl
@[simp] theorem need_true (r : Res ε α) : Res.nd true r = r := rfl
@[simp] theorem get_some (a : α) : (Res.gt (some a) : Res ε α) = .ok a := rfl
/-- a choice -/
def sel (b : Bool) (x y : α) : α := match b with
  | true => x
  | false => y
@[simp] theorem sel_t (x y : α) : sel true x y = x := rfl
@[simp] theorem sel_f (x y : α) : sel false x y = y := rfl
/-- a slice's part -/
def optR (r : Rv) (σ : En) : R (Option Int × En) := match r with
  | .val (.int i) => .ok (some i, σ)
  | _ => .bad
@[simp] theorem optR_int (i : Int) (σ : En) : optR (.val (.int i)) σ = .ok (some i, σ) := rfl
def varR (o : Option Sv) (σ : En) : R (Rv × En) := match o with
  | some (.val d) => .ok (.val d, σ)
  | _ => .bad
@[simp] theorem varR_val (d : D) (σ : En) : varR (some (.val d)) σ = .ok (.val d, σ) := rfl
def pkR (o : Option Sv) (i : Nat) (σ : En) : R (Av × En) := match o with
  | some (.own _) => .ok (.pk i, σ)
  | _ => .bad
@[simp] theorem pkR_own (ds : List D) (i : Nat) (σ : En) : pkR (some (.own ds)) i σ = .ok (.pk i, σ) := rfl
def mvR (io : Option Nat) (o : Option Sv) (i : Nat) (σ : En) : R (Rv × En) := match o with
  | some (.own ds) => Res.nd (!(io == some i)) (.ok (.own ds, σ.set i .un))
  | _ => .bad
@[simp] theorem mvR_own (io : Option Nat) (ds : List D) (i : Nat) (σ : En) : mvR io (some (.own ds)) i σ = Res.nd (!(io == some i)) (.ok (.own ds, σ.set i .un)) := rfl
def frzR (io : Option Nat) (o : Option Sv) (i : Nat) (σ : En) : R (Rv × En) := match o with
  | some (.own ds) => Res.nd (!(io == some i)) (.ok (.val (.list ds), σ.set i (.val (.list ds))))
  | some (.val d) => .ok (.val d, σ)
  | _ => .bad
@[simp] theorem frzR_own (io : Option Nat) (ds : List D) (i : Nat) (σ : En) : frzR io (some (.own ds)) i σ = Res.nd (!(io == some i)) (.ok (.val (.list ds), σ.set i (.val (.list ds)))) := rfl
@[simp] theorem frzR_val (io : Option Nat) (d : D) (i : Nat) (σ : En) : frzR io (some (.val d)) i σ = .ok (.val d, σ) := rfl
/-- a fresh list as an argument -/
def tmpR (r : Rv) (σ : En) : R (Av × En) := match r with
  | .own ds => .ok (.own ds, σ)
  | _ => .bad
@[simp] theorem tmpR_own (ds : List D) (σ : En) : tmpR (.own ds) σ = .ok (.own ds, σ) := rfl
def seeR (a : Av) (o : Option Sv) : Option D := match a with
  | .dat d => some d
  | .pk _ => (match o with
    | some (.own ds) => some (.list ds)
    | _ => none)
  | .own ds => some (.list ds)
@[simp] theorem see_dat (d : D) (σ : En) : (Av.dat d).see σ = some d := rfl
@[simp] theorem see_own (d : List D) (σ : En) : (Av.own d).see σ = some (.list d) := rfl
def ownO (o : Option Sv) : Option D := match o with
  | some (.own ds) => some (.list ds)
  | _ => none
@[simp] theorem ownO_own (ds : List D) : ownO (some (.own ds)) = some (.list ds) := rfl
@[simp] theorem see_pk (i : Nat) (x : Sv) (r : En) : (Av.pk i).see (x :: r) = ownO ((x :: r)[i]?) := rfl
def ixR (d : D) (k : D) : Option D := match k with
  | .int k => (match d with
    | .list ds => ixD ds k
    | .tuple ds => ixD ds k
    | _ => none)
  | _ => none
@[simp] theorem ixR_l (ds : List D) (k : Int) : ixR (.list ds) (.int k) = ixD ds k := rfl
@[simp] theorem ixR_t (ds : List D) (k : Int) : ixR (.tuple ds) (.int k) = ixD ds k := rfl
def negR (d : D) (σ : En) : R (Rv × En) := match d with
  | .int i => .ok (.val (.int (-i)), σ)
  | _ => .bad
@[simp] theorem negR_int (i : Int) (σ : En) : negR (.int i) σ = .ok (.val (.int (-i)), σ) := rfl
@[simp] theorem rv_d_val (d : D) : (Rv.val d).d = d := rfl
@[simp] theorem rv_d_own (d : List D) : (Rv.own d).d = .list d := rfl
@[simp] theorem rv_sv_val (d : D) : (Rv.val d).sv = .val d := rfl
@[simp] theorem rv_sv_own (d : List D) : (Rv.own d).sv = .own d := rfl
variable (S : Sc) (x : Sv) (r : En)

@[simp] theorem z_var_v (p : Pos) (i : Nat) : (evE S (.var p i)).v (x :: r) = (varR ((x :: r)[i]?) (x :: r) : R (Rv × En)) := rfl
@[simp] theorem z_var_a (p : Pos) (i : Nat) : (evE S (.var p i)).a (x :: r) = ((varR ((x :: r)[i]?) (x :: r) : R (Rv × En))).bd fun q => .ok (.dat q.1.d, q.2) := rfl
@[simp] theorem z_var_d (p : Pos) (i : Nat) : (evE S (.var p i)).d (x :: r) = ((varR ((x :: r)[i]?) (x :: r) : R (Rv × En))).bd fun q => .ok (q.1.d, q.2) := rfl
@[simp] theorem z_var_o (p : Pos) (i : Nat) : (evE S (.var p i)).o (x :: r) = ((varR ((x :: r)[i]?) (x :: r) : R (Rv × En))).bd fun q => optR q.1 q.2 := rfl
@[simp] theorem z_var_t (p : Pos) (i : Nat) : (evE S (.var p i)).t (x :: r) = ((varR ((x :: r)[i]?) (x :: r) : R (Rv × En))).bd fun q => (Res.gt (truD q.1.d)).bd fun b => .ok (b, q.2) := rfl
@[simp] theorem z_var_c (p : Pos) (i : Nat) : (evE S (.var p i)).c (x :: r) = ((varR ((x :: r)[i]?) (x :: r) : R (Rv × En))).bd fun q => (Res.gt (truD q.1.d)).bd fun b => .ok (b, q.2) := rfl
@[simp] theorem z_frz_v (p : Pos) (i : Nat) : (evE S (.frz p i)).v (x :: r) = (frzR S.io ((x :: r)[i]?) i (x :: r) : R (Rv × En)) := rfl
@[simp] theorem z_frz_a (p : Pos) (i : Nat) : (evE S (.frz p i)).a (x :: r) = ((frzR S.io ((x :: r)[i]?) i (x :: r) : R (Rv × En))).bd fun q => .ok (.dat q.1.d, q.2) := rfl
@[simp] theorem z_frz_d (p : Pos) (i : Nat) : (evE S (.frz p i)).d (x :: r) = ((frzR S.io ((x :: r)[i]?) i (x :: r) : R (Rv × En))).bd fun q => .ok (q.1.d, q.2) := rfl
@[simp] theorem z_frz_o (p : Pos) (i : Nat) : (evE S (.frz p i)).o (x :: r) = ((frzR S.io ((x :: r)[i]?) i (x :: r) : R (Rv × En))).bd fun q => optR q.1 q.2 := rfl
@[simp] theorem z_frz_t (p : Pos) (i : Nat) : (evE S (.frz p i)).t (x :: r) = ((frzR S.io ((x :: r)[i]?) i (x :: r) : R (Rv × En))).bd fun q => (Res.gt (truD q.1.d)).bd fun b => .ok (b, q.2) := rfl
@[simp] theorem z_frz_c (p : Pos) (i : Nat) : (evE S (.frz p i)).c (x :: r) = ((frzR S.io ((x :: r)[i]?) i (x :: r) : R (Rv × En))).bd fun q => (Res.gt (truD q.1.d)).bd fun b => .ok (b, q.2) := rfl
@[simp] theorem z_mv_v (p : Pos) (i : Nat) : (evE S (.mv p i)).v (x :: r) = (mvR S.io ((x :: r)[i]?) i (x :: r) : R (Rv × En)) := rfl
@[simp] theorem z_mv_a (p : Pos) (i : Nat) : (evE S (.mv p i)).a (x :: r) = ((mvR S.io ((x :: r)[i]?) i (x :: r) : R (Rv × En))).bd fun q => .ok (.dat q.1.d, q.2) := rfl
@[simp] theorem z_mv_d (p : Pos) (i : Nat) : (evE S (.mv p i)).d (x :: r) = ((mvR S.io ((x :: r)[i]?) i (x :: r) : R (Rv × En))).bd fun q => .ok (q.1.d, q.2) := rfl
@[simp] theorem z_mv_o (p : Pos) (i : Nat) : (evE S (.mv p i)).o (x :: r) = ((mvR S.io ((x :: r)[i]?) i (x :: r) : R (Rv × En))).bd fun q => optR q.1 q.2 := rfl
@[simp] theorem z_mv_t (p : Pos) (i : Nat) : (evE S (.mv p i)).t (x :: r) = ((mvR S.io ((x :: r)[i]?) i (x :: r) : R (Rv × En))).bd fun q => (Res.gt (truD q.1.d)).bd fun b => .ok (b, q.2) := rfl
@[simp] theorem z_mv_c (p : Pos) (i : Nat) : (evE S (.mv p i)).c (x :: r) = ((mvR S.io ((x :: r)[i]?) i (x :: r) : R (Rv × En))).bd fun q => (Res.gt (truD q.1.d)).bd fun b => .ok (b, q.2) := rfl
@[simp] theorem z_pk_a (p : Pos) (i : Nat) : (evE S (.pk p i)).a (x :: r) = pkR ((x :: r)[i]?) i (x :: r) := rfl
@[simp] theorem z_pk_t (p : Pos) (i : Nat) : (evE S (.pk p i)).t (x :: r) = (pkR ((x :: r)[i]?) i (x :: r)).bd fun q => (Res.gt (q.1.see q.2)).bd fun d => (Res.gt (truD d)).bd fun b => .ok (b, q.2) := rfl
@[simp] theorem z_tmp_a (e : E) : (evE S (.tmp e)).a (x :: r) = ((evE S e).v (x :: r)).bd fun q => tmpR q.1 q.2 := by
  show ((evE S e).v (x :: r)).bd _ = _
  congr 1
@[simp] theorem z_int_v (p : Pos) (k : Nat) (i : Int) : (evE S (.int p k i)).v (x :: r) = (.ok (.val (.int i), x :: r) : R (Rv × En)) := rfl
@[simp] theorem z_int_a (p : Pos) (k : Nat) (i : Int) : (evE S (.int p k i)).a (x :: r) = ((.ok (.val (.int i), x :: r) : R (Rv × En))).bd fun q => .ok (.dat q.1.d, q.2) := rfl
@[simp] theorem z_int_d (p : Pos) (k : Nat) (i : Int) : (evE S (.int p k i)).d (x :: r) = ((.ok (.val (.int i), x :: r) : R (Rv × En))).bd fun q => .ok (q.1.d, q.2) := rfl
@[simp] theorem z_int_o (p : Pos) (k : Nat) (i : Int) : (evE S (.int p k i)).o (x :: r) = ((.ok (.val (.int i), x :: r) : R (Rv × En))).bd fun q => optR q.1 q.2 := rfl
@[simp] theorem z_int_t (p : Pos) (k : Nat) (i : Int) : (evE S (.int p k i)).t (x :: r) = ((.ok (.val (.int i), x :: r) : R (Rv × En))).bd fun q => (Res.gt (truD q.1.d)).bd fun b => .ok (b, q.2) := rfl
@[simp] theorem z_int_c (p : Pos) (k : Nat) (i : Int) : (evE S (.int p k i)).c (x :: r) = ((.ok (.val (.int i), x :: r) : R (Rv × En))).bd fun q => (Res.gt (truD q.1.d)).bd fun b => .ok (b, q.2) := rfl
@[simp] theorem z_bl_v (p : Pos) (k : Nat) (b : Bool) : (evE S (.bl p k b)).v (x :: r) = (.ok (.val (.bool b), x :: r) : R (Rv × En)) := rfl
@[simp] theorem z_bl_a (p : Pos) (k : Nat) (b : Bool) : (evE S (.bl p k b)).a (x :: r) = ((.ok (.val (.bool b), x :: r) : R (Rv × En))).bd fun q => .ok (.dat q.1.d, q.2) := rfl
@[simp] theorem z_bl_d (p : Pos) (k : Nat) (b : Bool) : (evE S (.bl p k b)).d (x :: r) = ((.ok (.val (.bool b), x :: r) : R (Rv × En))).bd fun q => .ok (q.1.d, q.2) := rfl
@[simp] theorem z_bl_o (p : Pos) (k : Nat) (b : Bool) : (evE S (.bl p k b)).o (x :: r) = ((.ok (.val (.bool b), x :: r) : R (Rv × En))).bd fun q => optR q.1 q.2 := rfl
@[simp] theorem z_bl_t (p : Pos) (k : Nat) (b : Bool) : (evE S (.bl p k b)).t (x :: r) = ((.ok (.val (.bool b), x :: r) : R (Rv × En))).bd fun q => (Res.gt (truD q.1.d)).bd fun b => .ok (b, q.2) := rfl
@[simp] theorem z_bl_c (p : Pos) (k : Nat) (b : Bool) : (evE S (.bl p k b)).c (x :: r) = ((.ok (.val (.bool b), x :: r) : R (Rv × En))).bd fun q => (Res.gt (truD q.1.d)).bd fun b => .ok (b, q.2) := rfl
@[simp] theorem z_non_v (p : Pos) (k : Nat) : (evE S (.non p k)).v (x :: r) = (.ok (.val (.none), x :: r) : R (Rv × En)) := rfl
@[simp] theorem z_non_a (p : Pos) (k : Nat) : (evE S (.non p k)).a (x :: r) = ((.ok (.val (.none), x :: r) : R (Rv × En))).bd fun q => .ok (.dat q.1.d, q.2) := rfl
@[simp] theorem z_non_d (p : Pos) (k : Nat) : (evE S (.non p k)).d (x :: r) = ((.ok (.val (.none), x :: r) : R (Rv × En))).bd fun q => .ok (q.1.d, q.2) := rfl
@[simp] theorem z_non_o (p : Pos) (k : Nat) : (evE S (.non p k)).o (x :: r) = ((.ok (.val (.none), x :: r) : R (Rv × En))).bd fun q => optR q.1 q.2 := rfl
@[simp] theorem z_non_t (p : Pos) (k : Nat) : (evE S (.non p k)).t (x :: r) = ((.ok (.val (.none), x :: r) : R (Rv × En))).bd fun q => (Res.gt (truD q.1.d)).bd fun b => .ok (b, q.2) := rfl
@[simp] theorem z_non_c (p : Pos) (k : Nat) : (evE S (.non p k)).c (x :: r) = ((.ok (.val (.none), x :: r) : R (Rv × En))).bd fun q => (Res.gt (truD q.1.d)).bd fun b => .ok (b, q.2) := rfl
@[simp] theorem z_str_v (p : Pos) (k : Nat) (z : Str) : (evE S (.str p k z)).v (x :: r) = (.ok (.val (.str z), x :: r) : R (Rv × En)) := rfl
@[simp] theorem z_str_a (p : Pos) (k : Nat) (z : Str) : (evE S (.str p k z)).a (x :: r) = ((.ok (.val (.str z), x :: r) : R (Rv × En))).bd fun q => .ok (.dat q.1.d, q.2) := rfl
@[simp] theorem z_str_d (p : Pos) (k : Nat) (z : Str) : (evE S (.str p k z)).d (x :: r) = ((.ok (.val (.str z), x :: r) : R (Rv × En))).bd fun q => .ok (q.1.d, q.2) := rfl
@[simp] theorem z_str_o (p : Pos) (k : Nat) (z : Str) : (evE S (.str p k z)).o (x :: r) = ((.ok (.val (.str z), x :: r) : R (Rv × En))).bd fun q => optR q.1 q.2 := rfl
@[simp] theorem z_str_t (p : Pos) (k : Nat) (z : Str) : (evE S (.str p k z)).t (x :: r) = ((.ok (.val (.str z), x :: r) : R (Rv × En))).bd fun q => (Res.gt (truD q.1.d)).bd fun b => .ok (b, q.2) := rfl
@[simp] theorem z_str_c (p : Pos) (k : Nat) (z : Str) : (evE S (.str p k z)).c (x :: r) = ((.ok (.val (.str z), x :: r) : R (Rv × En))).bd fun q => (Res.gt (truD q.1.d)).bd fun b => .ok (b, q.2) := rfl
@[simp] theorem z_glob_v (p : Pos) (g : Nat) : (evE S (.glob p g)).v (x :: r) = (.ok (.val (S.cst g), x :: r) : R (Rv × En)) := rfl
@[simp] theorem z_glob_a (p : Pos) (g : Nat) : (evE S (.glob p g)).a (x :: r) = ((.ok (.val (S.cst g), x :: r) : R (Rv × En))).bd fun q => .ok (.dat q.1.d, q.2) := rfl
@[simp] theorem z_glob_d (p : Pos) (g : Nat) : (evE S (.glob p g)).d (x :: r) = ((.ok (.val (S.cst g), x :: r) : R (Rv × En))).bd fun q => .ok (q.1.d, q.2) := rfl
@[simp] theorem z_glob_o (p : Pos) (g : Nat) : (evE S (.glob p g)).o (x :: r) = ((.ok (.val (S.cst g), x :: r) : R (Rv × En))).bd fun q => optR q.1 q.2 := rfl
@[simp] theorem z_glob_t (p : Pos) (g : Nat) : (evE S (.glob p g)).t (x :: r) = ((.ok (.val (S.cst g), x :: r) : R (Rv × En))).bd fun q => (Res.gt (truD q.1.d)).bd fun b => .ok (b, q.2) := rfl
@[simp] theorem z_glob_c (p : Pos) (g : Nat) : (evE S (.glob p g)).c (x :: r) = ((.ok (.val (S.cst g), x :: r) : R (Rv × En))).bd fun q => (Res.gt (truD q.1.d)).bd fun b => .ok (b, q.2) := rfl
@[simp] theorem z_tup_v (p : Pos) (k : Nat) (es : Es) : (evE S (.tup p k es)).v (x :: r) = ((dsOf (evEs S es) (x :: r)).bd fun q => Res.nd (okLen q.1.length) (.ok (.val (.tuple q.1), q.2)) : R (Rv × En)) := rfl
@[simp] theorem z_tup_a (p : Pos) (k : Nat) (es : Es) : (evE S (.tup p k es)).a (x :: r) = (((dsOf (evEs S es) (x :: r)).bd fun q => Res.nd (okLen q.1.length) (.ok (.val (.tuple q.1), q.2)) : R (Rv × En))).bd fun q => .ok (.dat q.1.d, q.2) := rfl
@[simp] theorem z_tup_d (p : Pos) (k : Nat) (es : Es) : (evE S (.tup p k es)).d (x :: r) = (((dsOf (evEs S es) (x :: r)).bd fun q => Res.nd (okLen q.1.length) (.ok (.val (.tuple q.1), q.2)) : R (Rv × En))).bd fun q => .ok (q.1.d, q.2) := rfl
@[simp] theorem z_tup_o (p : Pos) (k : Nat) (es : Es) : (evE S (.tup p k es)).o (x :: r) = (((dsOf (evEs S es) (x :: r)).bd fun q => Res.nd (okLen q.1.length) (.ok (.val (.tuple q.1), q.2)) : R (Rv × En))).bd fun q => optR q.1 q.2 := rfl
@[simp] theorem z_tup_t (p : Pos) (k : Nat) (es : Es) : (evE S (.tup p k es)).t (x :: r) = (((dsOf (evEs S es) (x :: r)).bd fun q => Res.nd (okLen q.1.length) (.ok (.val (.tuple q.1), q.2)) : R (Rv × En))).bd fun q => (Res.gt (truD q.1.d)).bd fun b => .ok (b, q.2) := rfl
@[simp] theorem z_tup_c (p : Pos) (k : Nat) (es : Es) : (evE S (.tup p k es)).c (x :: r) = (((dsOf (evEs S es) (x :: r)).bd fun q => Res.nd (okLen q.1.length) (.ok (.val (.tuple q.1), q.2)) : R (Rv × En))).bd fun q => (Res.gt (truD q.1.d)).bd fun b => .ok (b, q.2) := rfl
@[simp] theorem z_lst_v (p : Pos) (es : Es) : (evE S (.lst p es)).v (x :: r) = ((dsOf (evEs S es) (x :: r)).bd fun q => Res.nd (okLen q.1.length) (.ok (.own q.1, q.2)) : R (Rv × En)) := rfl
@[simp] theorem z_lst_a (p : Pos) (es : Es) : (evE S (.lst p es)).a (x :: r) = (((dsOf (evEs S es) (x :: r)).bd fun q => Res.nd (okLen q.1.length) (.ok (.own q.1, q.2)) : R (Rv × En))).bd fun q => .ok (.dat q.1.d, q.2) := rfl
@[simp] theorem z_lst_d (p : Pos) (es : Es) : (evE S (.lst p es)).d (x :: r) = (((dsOf (evEs S es) (x :: r)).bd fun q => Res.nd (okLen q.1.length) (.ok (.own q.1, q.2)) : R (Rv × En))).bd fun q => .ok (q.1.d, q.2) := rfl
@[simp] theorem z_lst_o (p : Pos) (es : Es) : (evE S (.lst p es)).o (x :: r) = (((dsOf (evEs S es) (x :: r)).bd fun q => Res.nd (okLen q.1.length) (.ok (.own q.1, q.2)) : R (Rv × En))).bd fun q => optR q.1 q.2 := rfl
@[simp] theorem z_lst_t (p : Pos) (es : Es) : (evE S (.lst p es)).t (x :: r) = (((dsOf (evEs S es) (x :: r)).bd fun q => Res.nd (okLen q.1.length) (.ok (.own q.1, q.2)) : R (Rv × En))).bd fun q => (Res.gt (truD q.1.d)).bd fun b => .ok (b, q.2) := rfl
@[simp] theorem z_lst_c (p : Pos) (es : Es) : (evE S (.lst p es)).c (x :: r) = (((dsOf (evEs S es) (x :: r)).bd fun q => Res.nd (okLen q.1.length) (.ok (.own q.1, q.2)) : R (Rv × En))).bd fun q => (Res.gt (truD q.1.d)).bd fun b => .ok (b, q.2) := rfl
@[simp] theorem z_bin_v (p : Pos) (o : Bop) (a b : E) : (evE S (.bin p o a b)).v (x :: r) = (opD (binD o) (evE S a) (evE S b) (x :: r) : R (Rv × En)) := rfl
@[simp] theorem z_bin_a (p : Pos) (o : Bop) (a b : E) : (evE S (.bin p o a b)).a (x :: r) = ((opD (binD o) (evE S a) (evE S b) (x :: r) : R (Rv × En))).bd fun q => .ok (.dat q.1.d, q.2) := rfl
@[simp] theorem z_bin_d (p : Pos) (o : Bop) (a b : E) : (evE S (.bin p o a b)).d (x :: r) = ((opD (binD o) (evE S a) (evE S b) (x :: r) : R (Rv × En))).bd fun q => .ok (q.1.d, q.2) := rfl
@[simp] theorem z_bin_o (p : Pos) (o : Bop) (a b : E) : (evE S (.bin p o a b)).o (x :: r) = ((opD (binD o) (evE S a) (evE S b) (x :: r) : R (Rv × En))).bd fun q => optR q.1 q.2 := rfl
@[simp] theorem z_bin_t (p : Pos) (o : Bop) (a b : E) : (evE S (.bin p o a b)).t (x :: r) = ((opD (binD o) (evE S a) (evE S b) (x :: r) : R (Rv × En))).bd fun q => (Res.gt (truD q.1.d)).bd fun b => .ok (b, q.2) := rfl
@[simp] theorem z_bin_c (p : Pos) (o : Bop) (a b : E) : (evE S (.bin p o a b)).c (x :: r) = ((opD (binD o) (evE S a) (evE S b) (x :: r) : R (Rv × En))).bd fun q => (Res.gt (truD q.1.d)).bd fun b => .ok (b, q.2) := rfl
@[simp] theorem z_cmp_v (p : Pos) (o : Cop) (a b : E) : (evE S (.cmp p o a b)).v (x :: r) = ((opD (cmpD o) (evE S a) (evE S b) (x :: r)).bd fun q => .ok (.val (.bool q.1), q.2) : R (Rv × En)) := rfl
@[simp] theorem z_cmp_a (p : Pos) (o : Cop) (a b : E) : (evE S (.cmp p o a b)).a (x :: r) = (((opD (cmpD o) (evE S a) (evE S b) (x :: r)).bd fun q => .ok (.val (.bool q.1), q.2) : R (Rv × En))).bd fun q => .ok (.dat q.1.d, q.2) := rfl
@[simp] theorem z_cmp_d (p : Pos) (o : Cop) (a b : E) : (evE S (.cmp p o a b)).d (x :: r) = (((opD (cmpD o) (evE S a) (evE S b) (x :: r)).bd fun q => .ok (.val (.bool q.1), q.2) : R (Rv × En))).bd fun q => .ok (q.1.d, q.2) := rfl
@[simp] theorem z_cmp_o (p : Pos) (o : Cop) (a b : E) : (evE S (.cmp p o a b)).o (x :: r) = (((opD (cmpD o) (evE S a) (evE S b) (x :: r)).bd fun q => .ok (.val (.bool q.1), q.2) : R (Rv × En))).bd fun q => optR q.1 q.2 := rfl
@[simp] theorem z_cmp_t (p : Pos) (o : Cop) (a b : E) : (evE S (.cmp p o a b)).t (x :: r) = opD (cmpD o) (evE S a) (evE S b) (x :: r) := by
  have h := tru_cmp (g := opD (cmpD o) (evE S a) (evE S b))
  exact congrFun h (x :: r)
@[simp] theorem z_cmp_c (p : Pos) (o : Cop) (a b : E) : (evE S (.cmp p o a b)).c (x :: r) = opD (cmpD o) (evE S a) (evE S b) (x :: r) := by
  have h := tru_cmp (g := opD (cmpD o) (evE S a) (evE S b))
  exact congrFun h (x :: r)
@[simp] theorem z_cmp2_v (p : Pos) (o o' : Cop) (a b c : E) : (evE S (.cmp2 p o o' a b c)).v (x :: r) = ((cmp2D o o' (evE S a) (evE S b) (evE S c) (x :: r)).bd fun q => .ok (.val (.bool q.1), q.2) : R (Rv × En)) := rfl
@[simp] theorem z_cmp2_a (p : Pos) (o o' : Cop) (a b c : E) : (evE S (.cmp2 p o o' a b c)).a (x :: r) = (((cmp2D o o' (evE S a) (evE S b) (evE S c) (x :: r)).bd fun q => .ok (.val (.bool q.1), q.2) : R (Rv × En))).bd fun q => .ok (.dat q.1.d, q.2) := rfl
@[simp] theorem z_cmp2_d (p : Pos) (o o' : Cop) (a b c : E) : (evE S (.cmp2 p o o' a b c)).d (x :: r) = (((cmp2D o o' (evE S a) (evE S b) (evE S c) (x :: r)).bd fun q => .ok (.val (.bool q.1), q.2) : R (Rv × En))).bd fun q => .ok (q.1.d, q.2) := rfl
@[simp] theorem z_cmp2_o (p : Pos) (o o' : Cop) (a b c : E) : (evE S (.cmp2 p o o' a b c)).o (x :: r) = (((cmp2D o o' (evE S a) (evE S b) (evE S c) (x :: r)).bd fun q => .ok (.val (.bool q.1), q.2) : R (Rv × En))).bd fun q => optR q.1 q.2 := rfl
@[simp] theorem z_cmp2_t (p : Pos) (o o' : Cop) (a b c : E) : (evE S (.cmp2 p o o' a b c)).t (x :: r) = cmp2D o o' (evE S a) (evE S b) (evE S c) (x :: r) := by
  have h := tru_cmp (g := cmp2D o o' (evE S a) (evE S b) (evE S c))
  exact congrFun h (x :: r)
@[simp] theorem z_cmp2_c (p : Pos) (o o' : Cop) (a b c : E) : (evE S (.cmp2 p o o' a b c)).c (x :: r) = cmp2D o o' (evE S a) (evE S b) (evE S c) (x :: r) := by
  have h := tru_cmp (g := cmp2D o o' (evE S a) (evE S b) (evE S c))
  exact congrFun h (x :: r)
@[simp] theorem z_neg_v (p : Pos) (a : E) : (evE S (.neg p a)).v (x :: r) = (((evE S a).d (x :: r)).bd fun q => negR q.1 q.2 : R (Rv × En)) := by
  show negV (evE S a) (x :: r) = _
  unfold negV Ev.d
  cases (evE S a).v (x :: r) with
  | bad => rfl
  | ex x e => rfl
  | ok q =>
    obtain ⟨r, σ'⟩ := q
    cases r with
    | own ds => rfl
    | val k => cases k <;> rfl
@[simp] theorem z_neg_a (p : Pos) (a : E) : (evE S (.neg p a)).a (x :: r) = ((((evE S a).d (x :: r)).bd fun q => negR q.1 q.2 : R (Rv × En))).bd fun q => .ok (.dat q.1.d, q.2) := by
  show ((evE S (.neg p a)).v (x :: r)).bd _ = _
  rw [z_neg_v] <;> rfl
@[simp] theorem z_neg_d (p : Pos) (a : E) : (evE S (.neg p a)).d (x :: r) = ((((evE S a).d (x :: r)).bd fun q => negR q.1 q.2 : R (Rv × En))).bd fun q => .ok (q.1.d, q.2) := by
  show ((evE S (.neg p a)).v (x :: r)).bd _ = _
  rw [z_neg_v] <;> rfl
@[simp] theorem z_neg_o (p : Pos) (a : E) : (evE S (.neg p a)).o (x :: r) = ((((evE S a).d (x :: r)).bd fun q => negR q.1 q.2 : R (Rv × En))).bd fun q => optR q.1 q.2 := by
  show ((evE S (.neg p a)).v (x :: r)).bd _ = _
  rw [z_neg_v] <;> rfl
@[simp] theorem z_neg_t (p : Pos) (a : E) : (evE S (.neg p a)).t (x :: r) = ((((evE S a).d (x :: r)).bd fun q => negR q.1 q.2 : R (Rv × En))).bd fun q => (Res.gt (truD q.1.d)).bd fun b => .ok (b, q.2) := by
  show ((evE S (.neg p a)).v (x :: r)).bd _ = _
  rw [z_neg_v] <;> rfl
@[simp] theorem z_neg_c (p : Pos) (a : E) : (evE S (.neg p a)).c (x :: r) = ((((evE S a).d (x :: r)).bd fun q => negR q.1 q.2 : R (Rv × En))).bd fun q => (Res.gt (truD q.1.d)).bd fun b => .ok (b, q.2) := by
  show ((evE S (.neg p a)).v (x :: r)).bd _ = _
  rw [z_neg_v] <;> rfl
@[simp] theorem z_not_v (p : Pos) (a : E) : (evE S (.not p a)).v (x :: r) = (((evE S a).d (x :: r)).bd fun q => (Res.gt (truD q.1)).bd fun b => .ok (.val (.bool (!b)), q.2) : R (Rv × En)) := by
  show ((evE S a).d (x :: r)).bd _ = _
  congr 1
  funext q
  show ((Res.gt (truD q.1)).bd fun b => Res.ok (b, q.2)).bd _ = _
  cases truD q.1 <;> rfl
@[simp] theorem z_not_a (p : Pos) (a : E) : (evE S (.not p a)).a (x :: r) = ((((evE S a).d (x :: r)).bd fun q => (Res.gt (truD q.1)).bd fun b => .ok (.val (.bool (!b)), q.2) : R (Rv × En))).bd fun q => .ok (.dat q.1.d, q.2) := by
  show ((evE S (.not p a)).v (x :: r)).bd _ = _
  rw [z_not_v] <;> rfl
@[simp] theorem z_not_d (p : Pos) (a : E) : (evE S (.not p a)).d (x :: r) = ((((evE S a).d (x :: r)).bd fun q => (Res.gt (truD q.1)).bd fun b => .ok (.val (.bool (!b)), q.2) : R (Rv × En))).bd fun q => .ok (q.1.d, q.2) := by
  show ((evE S (.not p a)).v (x :: r)).bd _ = _
  rw [z_not_v] <;> rfl
@[simp] theorem z_not_o (p : Pos) (a : E) : (evE S (.not p a)).o (x :: r) = ((((evE S a).d (x :: r)).bd fun q => (Res.gt (truD q.1)).bd fun b => .ok (.val (.bool (!b)), q.2) : R (Rv × En))).bd fun q => optR q.1 q.2 := by
  show ((evE S (.not p a)).v (x :: r)).bd _ = _
  rw [z_not_v] <;> rfl
@[simp] theorem z_not_t (p : Pos) (a : E) : (evE S (.not p a)).t (x :: r) = ((evE S a).t (x :: r)).bd fun q => .ok (!q.1, q.2) := rfl
@[simp] theorem z_not_c (p : Pos) (a : E) : (evE S (.not p a)).c (x :: r) = ((evE S a).t (x :: r)).bd fun q => .ok (!q.1, q.2) := rfl
@[simp] theorem z_and_v (p : Pos) (es : Es) : (evE S (.and p es)).v (x :: r) = (andV (evEs S es) (x :: r) : R (Rv × En)) := rfl
@[simp] theorem z_and_a (p : Pos) (es : Es) : (evE S (.and p es)).a (x :: r) = ((andV (evEs S es) (x :: r) : R (Rv × En))).bd fun q => .ok (.dat q.1.d, q.2) := rfl
@[simp] theorem z_and_d (p : Pos) (es : Es) : (evE S (.and p es)).d (x :: r) = ((andV (evEs S es) (x :: r) : R (Rv × En))).bd fun q => .ok (q.1.d, q.2) := rfl
@[simp] theorem z_and_o (p : Pos) (es : Es) : (evE S (.and p es)).o (x :: r) = ((andV (evEs S es) (x :: r) : R (Rv × En))).bd fun q => optR q.1 q.2 := rfl
@[simp] theorem z_and_t (p : Pos) (es : Es) : (evE S (.and p es)).t (x :: r) = andT (evEs S es) (x :: r) := rfl
@[simp] theorem z_and_c (p : Pos) (es : Es) : (evE S (.and p es)).c (x :: r) = andT (evEs S es) (x :: r) := rfl
@[simp] theorem z_or_v (p : Pos) (es : Es) : (evE S (.or p es)).v (x :: r) = (orV (evEs S es) (x :: r) : R (Rv × En)) := rfl
@[simp] theorem z_or_a (p : Pos) (es : Es) : (evE S (.or p es)).a (x :: r) = ((orV (evEs S es) (x :: r) : R (Rv × En))).bd fun q => .ok (.dat q.1.d, q.2) := rfl
@[simp] theorem z_or_d (p : Pos) (es : Es) : (evE S (.or p es)).d (x :: r) = ((orV (evEs S es) (x :: r) : R (Rv × En))).bd fun q => .ok (q.1.d, q.2) := rfl
@[simp] theorem z_or_o (p : Pos) (es : Es) : (evE S (.or p es)).o (x :: r) = ((orV (evEs S es) (x :: r) : R (Rv × En))).bd fun q => optR q.1 q.2 := rfl
@[simp] theorem z_or_t (p : Pos) (es : Es) : (evE S (.or p es)).t (x :: r) = orT (evEs S es) (x :: r) := rfl
@[simp] theorem z_or_c (p : Pos) (es : Es) : (evE S (.or p es)).c (x :: r) = orT (evEs S es) (x :: r) := rfl
@[simp] theorem z_ite_v (p : Pos) (c a b : E) : (evE S (.ite p c a b)).v (x :: r) = (((evE S c).t (x :: r)).bd fun q => sel q.1 ((evE S a).v q.2) ((evE S b).v q.2) : R (Rv × En)) := by
  show ((evE S c).t (x :: r)).bd _ = _
  congr 1
@[simp] theorem z_ite_a (p : Pos) (c a b : E) : (evE S (.ite p c a b)).a (x :: r) = ((((evE S c).t (x :: r)).bd fun q => sel q.1 ((evE S a).v q.2) ((evE S b).v q.2) : R (Rv × En))).bd fun q => .ok (.dat q.1.d, q.2) := by
  show ((evE S (.ite p c a b)).v (x :: r)).bd _ = _
  rw [z_ite_v] <;> rfl
@[simp] theorem z_ite_d (p : Pos) (c a b : E) : (evE S (.ite p c a b)).d (x :: r) = ((((evE S c).t (x :: r)).bd fun q => sel q.1 ((evE S a).v q.2) ((evE S b).v q.2) : R (Rv × En))).bd fun q => .ok (q.1.d, q.2) := by
  show ((evE S (.ite p c a b)).v (x :: r)).bd _ = _
  rw [z_ite_v] <;> rfl
@[simp] theorem z_ite_o (p : Pos) (c a b : E) : (evE S (.ite p c a b)).o (x :: r) = ((((evE S c).t (x :: r)).bd fun q => sel q.1 ((evE S a).v q.2) ((evE S b).v q.2) : R (Rv × En))).bd fun q => optR q.1 q.2 := by
  show ((evE S (.ite p c a b)).v (x :: r)).bd _ = _
  rw [z_ite_v] <;> rfl
@[simp] theorem z_ite_t (p : Pos) (c a b : E) : (evE S (.ite p c a b)).t (x :: r) = ((evE S c).t (x :: r)).bd fun q => sel q.1 ((evE S a).t q.2) ((evE S b).t q.2) := by
  show ((evE S c).t (x :: r)).bd _ = _
  congr 1
@[simp] theorem z_ite_c (p : Pos) (c a b : E) : (evE S (.ite p c a b)).c (x :: r) = ((evE S c).t (x :: r)).bd fun q => sel q.1 ((evE S a).t q.2) ((evE S b).t q.2) := by
  show ((evE S c).t (x :: r)).bd _ = _
  congr 1
@[simp] theorem z_ix_v (p : Pos) (a i : E) : (evE S (.ix p a i)).v (x :: r) = (((evE S a).a (x :: r)).bd fun p => ((evE S i).d p.2).bd fun q => (Res.gt (p.1.see q.2)).bd fun d => (Res.gt (ixR d q.1)).bd fun x => .ok (.val x, q.2) : R (Rv × En)) := by
  show ixV (evE S a) (evE S i) (x :: r) = _
  unfold ixV
  congr 1
  funext p
  unfold Ev.d
  cases (evE S i).v p.2 with
  | bad => rfl
  | ex x e => rfl
  | ok q =>
    obtain ⟨r, σ'⟩ := q
    show ((Res.gt (p.1.see σ')).bd fun d => _) = ((Res.gt (p.1.see σ')).bd fun d => _)
    congr 1
    funext d
    cases r with
    | own ds => rfl
    | val k => cases k <;> cases d <;> rfl
@[simp] theorem z_ix_a (p : Pos) (a i : E) : (evE S (.ix p a i)).a (x :: r) = ((((evE S a).a (x :: r)).bd fun p => ((evE S i).d p.2).bd fun q => (Res.gt (p.1.see q.2)).bd fun d => (Res.gt (ixR d q.1)).bd fun x => .ok (.val x, q.2) : R (Rv × En))).bd fun q => .ok (.dat q.1.d, q.2) := by
  show ((evE S (.ix p a i)).v (x :: r)).bd _ = _
  rw [z_ix_v] <;> rfl
@[simp] theorem z_ix_d (p : Pos) (a i : E) : (evE S (.ix p a i)).d (x :: r) = ((((evE S a).a (x :: r)).bd fun p => ((evE S i).d p.2).bd fun q => (Res.gt (p.1.see q.2)).bd fun d => (Res.gt (ixR d q.1)).bd fun x => .ok (.val x, q.2) : R (Rv × En))).bd fun q => .ok (q.1.d, q.2) := by
  show ((evE S (.ix p a i)).v (x :: r)).bd _ = _
  rw [z_ix_v] <;> rfl
@[simp] theorem z_ix_o (p : Pos) (a i : E) : (evE S (.ix p a i)).o (x :: r) = ((((evE S a).a (x :: r)).bd fun p => ((evE S i).d p.2).bd fun q => (Res.gt (p.1.see q.2)).bd fun d => (Res.gt (ixR d q.1)).bd fun x => .ok (.val x, q.2) : R (Rv × En))).bd fun q => optR q.1 q.2 := by
  show ((evE S (.ix p a i)).v (x :: r)).bd _ = _
  rw [z_ix_v] <;> rfl
@[simp] theorem z_ix_t (p : Pos) (a i : E) : (evE S (.ix p a i)).t (x :: r) = ((((evE S a).a (x :: r)).bd fun p => ((evE S i).d p.2).bd fun q => (Res.gt (p.1.see q.2)).bd fun d => (Res.gt (ixR d q.1)).bd fun x => .ok (.val x, q.2) : R (Rv × En))).bd fun q => (Res.gt (truD q.1.d)).bd fun b => .ok (b, q.2) := by
  show ((evE S (.ix p a i)).v (x :: r)).bd _ = _
  rw [z_ix_v] <;> rfl
@[simp] theorem z_ix_c (p : Pos) (a i : E) : (evE S (.ix p a i)).c (x :: r) = ((((evE S a).a (x :: r)).bd fun p => ((evE S i).d p.2).bd fun q => (Res.gt (p.1.see q.2)).bd fun d => (Res.gt (ixR d q.1)).bd fun x => .ok (.val x, q.2) : R (Rv × En))).bd fun q => (Res.gt (truD q.1.d)).bd fun b => .ok (b, q.2) := by
  show ((evE S (.ix p a i)).v (x :: r)).bd _ = _
  rw [z_ix_v] <;> rfl
@[simp] theorem z_sl_v (p p2 : Pos) (a lo hi : E) : (evE S (.sl p p2 a lo hi)).v (x :: r) = (((evE S a).a (x :: r)).bd fun p => ((evE S lo).o p.2).bd fun q => ((evE S hi).o q.2).bd fun z => (Res.gt (p.1.see z.2)).bd fun d => (Res.gt (slD d q.1 z.1)).bd fun r => .ok (r, z.2) : R (Rv × En)) := rfl
@[simp] theorem z_sl_a (p p2 : Pos) (a lo hi : E) : (evE S (.sl p p2 a lo hi)).a (x :: r) = ((((evE S a).a (x :: r)).bd fun p => ((evE S lo).o p.2).bd fun q => ((evE S hi).o q.2).bd fun z => (Res.gt (p.1.see z.2)).bd fun d => (Res.gt (slD d q.1 z.1)).bd fun r => .ok (r, z.2) : R (Rv × En))).bd fun q => .ok (.dat q.1.d, q.2) := rfl
@[simp] theorem z_sl_d (p p2 : Pos) (a lo hi : E) : (evE S (.sl p p2 a lo hi)).d (x :: r) = ((((evE S a).a (x :: r)).bd fun p => ((evE S lo).o p.2).bd fun q => ((evE S hi).o q.2).bd fun z => (Res.gt (p.1.see z.2)).bd fun d => (Res.gt (slD d q.1 z.1)).bd fun r => .ok (r, z.2) : R (Rv × En))).bd fun q => .ok (q.1.d, q.2) := rfl
@[simp] theorem z_sl_o (p p2 : Pos) (a lo hi : E) : (evE S (.sl p p2 a lo hi)).o (x :: r) = ((((evE S a).a (x :: r)).bd fun p => ((evE S lo).o p.2).bd fun q => ((evE S hi).o q.2).bd fun z => (Res.gt (p.1.see z.2)).bd fun d => (Res.gt (slD d q.1 z.1)).bd fun r => .ok (r, z.2) : R (Rv × En))).bd fun q => optR q.1 q.2 := rfl
@[simp] theorem z_sl_t (p p2 : Pos) (a lo hi : E) : (evE S (.sl p p2 a lo hi)).t (x :: r) = ((((evE S a).a (x :: r)).bd fun p => ((evE S lo).o p.2).bd fun q => ((evE S hi).o q.2).bd fun z => (Res.gt (p.1.see z.2)).bd fun d => (Res.gt (slD d q.1 z.1)).bd fun r => .ok (r, z.2) : R (Rv × En))).bd fun q => (Res.gt (truD q.1.d)).bd fun b => .ok (b, q.2) := rfl
@[simp] theorem z_sl_c (p p2 : Pos) (a lo hi : E) : (evE S (.sl p p2 a lo hi)).c (x :: r) = ((((evE S a).a (x :: r)).bd fun p => ((evE S lo).o p.2).bd fun q => ((evE S hi).o q.2).bd fun z => (Res.gt (p.1.see z.2)).bd fun d => (Res.gt (slD d q.1 z.1)).bd fun r => .ok (r, z.2) : R (Rv × En))).bd fun q => (Res.gt (truD q.1.d)).bd fun b => .ok (b, q.2) := rfl
@[simp] theorem z_no_o : (evE S .no).o (x :: r) = .ok (none, x :: r) := rfl
@[simp] theorem z_no_c : (evE S .no).c (x :: r) = .ok (true, x :: r) := rfl
@[simp] theorem z_bi_v (p pn : Pos) (f : Bi) (as : Es) : (evE S (.bi p pn f as)).v (x :: r) = ((avsOf (evEs S as) (x :: r)).bd fun q => (Res.gt (seeAll q.2 q.1)).bd fun ds => (Res.gt (biD f ds)).bd fun r => .ok (r, q.2) : R (Rv × En)) := rfl
@[simp] theorem z_bi_a (p pn : Pos) (f : Bi) (as : Es) : (evE S (.bi p pn f as)).a (x :: r) = (((avsOf (evEs S as) (x :: r)).bd fun q => (Res.gt (seeAll q.2 q.1)).bd fun ds => (Res.gt (biD f ds)).bd fun r => .ok (r, q.2) : R (Rv × En))).bd fun q => .ok (.dat q.1.d, q.2) := rfl
@[simp] theorem z_bi_d (p pn : Pos) (f : Bi) (as : Es) : (evE S (.bi p pn f as)).d (x :: r) = (((avsOf (evEs S as) (x :: r)).bd fun q => (Res.gt (seeAll q.2 q.1)).bd fun ds => (Res.gt (biD f ds)).bd fun r => .ok (r, q.2) : R (Rv × En))).bd fun q => .ok (q.1.d, q.2) := rfl
@[simp] theorem z_bi_o (p pn : Pos) (f : Bi) (as : Es) : (evE S (.bi p pn f as)).o (x :: r) = (((avsOf (evEs S as) (x :: r)).bd fun q => (Res.gt (seeAll q.2 q.1)).bd fun ds => (Res.gt (biD f ds)).bd fun r => .ok (r, q.2) : R (Rv × En))).bd fun q => optR q.1 q.2 := rfl
@[simp] theorem z_bi_t (p pn : Pos) (f : Bi) (as : Es) : (evE S (.bi p pn f as)).t (x :: r) = (((avsOf (evEs S as) (x :: r)).bd fun q => (Res.gt (seeAll q.2 q.1)).bd fun ds => (Res.gt (biD f ds)).bd fun r => .ok (r, q.2) : R (Rv × En))).bd fun q => (Res.gt (truD q.1.d)).bd fun b => .ok (b, q.2) := rfl
@[simp] theorem z_bi_c (p pn : Pos) (f : Bi) (as : Es) : (evE S (.bi p pn f as)).c (x :: r) = (((avsOf (evEs S as) (x :: r)).bd fun q => (Res.gt (seeAll q.2 q.1)).bd fun ds => (Res.gt (biD f ds)).bd fun r => .ok (r, q.2) : R (Rv × En))).bd fun q => (Res.gt (truD q.1.d)).bd fun b => .ok (b, q.2) := rfl
@[simp] theorem z_ext_v (x0 : Ext) (as : Es) : (evE S (.ext x0 as)).v (x :: r) = ((avsOf (evEs S as) (x :: r)).bd fun q => (Res.gt (seeAll q.2 q.1)).bd fun ds => (Res.gt (extD x0 ds)).bd fun r => .ok (r, q.2) : R (Rv × En)) := rfl
@[simp] theorem z_ext_a (x0 : Ext) (as : Es) : (evE S (.ext x0 as)).a (x :: r) = (((avsOf (evEs S as) (x :: r)).bd fun q => (Res.gt (seeAll q.2 q.1)).bd fun ds => (Res.gt (extD x0 ds)).bd fun r => .ok (r, q.2) : R (Rv × En))).bd fun q => .ok (.dat q.1.d, q.2) := rfl
@[simp] theorem z_ext_d (x0 : Ext) (as : Es) : (evE S (.ext x0 as)).d (x :: r) = (((avsOf (evEs S as) (x :: r)).bd fun q => (Res.gt (seeAll q.2 q.1)).bd fun ds => (Res.gt (extD x0 ds)).bd fun r => .ok (r, q.2) : R (Rv × En))).bd fun q => .ok (q.1.d, q.2) := rfl
@[simp] theorem z_ext_o (x0 : Ext) (as : Es) : (evE S (.ext x0 as)).o (x :: r) = (((avsOf (evEs S as) (x :: r)).bd fun q => (Res.gt (seeAll q.2 q.1)).bd fun ds => (Res.gt (extD x0 ds)).bd fun r => .ok (r, q.2) : R (Rv × En))).bd fun q => optR q.1 q.2 := rfl
@[simp] theorem z_ext_t (x0 : Ext) (as : Es) : (evE S (.ext x0 as)).t (x :: r) = (((avsOf (evEs S as) (x :: r)).bd fun q => (Res.gt (seeAll q.2 q.1)).bd fun ds => (Res.gt (extD x0 ds)).bd fun r => .ok (r, q.2) : R (Rv × En))).bd fun q => (Res.gt (truD q.1.d)).bd fun b => .ok (b, q.2) := rfl
@[simp] theorem z_ext_c (x0 : Ext) (as : Es) : (evE S (.ext x0 as)).c (x :: r) = (((avsOf (evEs S as) (x :: r)).bd fun q => (Res.gt (seeAll q.2 q.1)).bd fun ds => (Res.gt (extD x0 ds)).bd fun r => .ok (r, q.2) : R (Rv × En))).bd fun q => (Res.gt (truD q.1.d)).bd fun b => .ok (b, q.2) := rfl
@[simp] theorem z_isi_v (p pn : Pos) (a : E) (t : Ty) : (evE S (.isi p pn a t)).v (x :: r) = (((evE S a).a (x :: r)).bd fun q => (Res.gt (q.1.see q.2)).bd fun d => (Res.gt (isiD d t)).bd fun b => .ok (.val (.bool b), q.2) : R (Rv × En)) := rfl
@[simp] theorem z_isi_a (p pn : Pos) (a : E) (t : Ty) : (evE S (.isi p pn a t)).a (x :: r) = ((((evE S a).a (x :: r)).bd fun q => (Res.gt (q.1.see q.2)).bd fun d => (Res.gt (isiD d t)).bd fun b => .ok (.val (.bool b), q.2) : R (Rv × En))).bd fun q => .ok (.dat q.1.d, q.2) := rfl
@[simp] theorem z_isi_d (p pn : Pos) (a : E) (t : Ty) : (evE S (.isi p pn a t)).d (x :: r) = ((((evE S a).a (x :: r)).bd fun q => (Res.gt (q.1.see q.2)).bd fun d => (Res.gt (isiD d t)).bd fun b => .ok (.val (.bool b), q.2) : R (Rv × En))).bd fun q => .ok (q.1.d, q.2) := rfl
@[simp] theorem z_isi_o (p pn : Pos) (a : E) (t : Ty) : (evE S (.isi p pn a t)).o (x :: r) = ((((evE S a).a (x :: r)).bd fun q => (Res.gt (q.1.see q.2)).bd fun d => (Res.gt (isiD d t)).bd fun b => .ok (.val (.bool b), q.2) : R (Rv × En))).bd fun q => optR q.1 q.2 := rfl
@[simp] theorem z_isi_t (p pn : Pos) (a : E) (t : Ty) : (evE S (.isi p pn a t)).t (x :: r) = ((((evE S a).a (x :: r)).bd fun q => (Res.gt (q.1.see q.2)).bd fun d => (Res.gt (isiD d t)).bd fun b => .ok (.val (.bool b), q.2) : R (Rv × En))).bd fun q => (Res.gt (truD q.1.d)).bd fun b => .ok (b, q.2) := rfl
@[simp] theorem z_isi_c (p pn : Pos) (a : E) (t : Ty) : (evE S (.isi p pn a t)).c (x :: r) = ((((evE S a).a (x :: r)).bd fun q => (Res.gt (q.1.see q.2)).bd fun d => (Res.gt (isiD d t)).bd fun b => .ok (.val (.bool b), q.2) : R (Rv × En))).bd fun q => (Res.gt (truD q.1.d)).bd fun b => .ok (b, q.2) := rfl
@[simp] theorem z_call_v (p pn : Pos) (f : Nat) (as : Es) : (evE S (.call p pn f as)).v (x :: r) = ((avsOf (evEs S as) (x :: r)).bd fun q => callD S f q.1 q.2 : R (Rv × En)) := rfl
@[simp] theorem z_call_a (p pn : Pos) (f : Nat) (as : Es) : (evE S (.call p pn f as)).a (x :: r) = (((avsOf (evEs S as) (x :: r)).bd fun q => callD S f q.1 q.2 : R (Rv × En))).bd fun q => .ok (.dat q.1.d, q.2) := rfl
@[simp] theorem z_call_d (p pn : Pos) (f : Nat) (as : Es) : (evE S (.call p pn f as)).d (x :: r) = (((avsOf (evEs S as) (x :: r)).bd fun q => callD S f q.1 q.2 : R (Rv × En))).bd fun q => .ok (q.1.d, q.2) := rfl
@[simp] theorem z_call_o (p pn : Pos) (f : Nat) (as : Es) : (evE S (.call p pn f as)).o (x :: r) = (((avsOf (evEs S as) (x :: r)).bd fun q => callD S f q.1 q.2 : R (Rv × En))).bd fun q => optR q.1 q.2 := rfl
@[simp] theorem z_call_t (p pn : Pos) (f : Nat) (as : Es) : (evE S (.call p pn f as)).t (x :: r) = (((avsOf (evEs S as) (x :: r)).bd fun q => callD S f q.1 q.2 : R (Rv × En))).bd fun q => (Res.gt (truD q.1.d)).bd fun b => .ok (b, q.2) := rfl
@[simp] theorem z_call_c (p pn : Pos) (f : Nat) (as : Es) : (evE S (.call p pn f as)).c (x :: r) = (((avsOf (evEs S as) (x :: r)).bd fun q => callD S f q.1 q.2 : R (Rv × En))).bd fun q => (Res.gt (truD q.1.d)).bd fun b => .ok (b, q.2) := rfl
@[simp] theorem z_callk_v (p pn : Pos) (f : Nat) (as : Es) (ks : List (Str × Pos)) (vs : Es) (pm : List Nat) : (evE S (.callk p pn f as ks vs pm)).v (x :: r) = ((avsOf (evEs S as) (x :: r)).bd fun q => (avsOf (evEs S vs) q.2).bd fun z => (Res.gt (permD (q.1 ++ z.1) pm)).bd fun l => callD S f l z.2 : R (Rv × En)) := rfl
@[simp] theorem z_callk_a (p pn : Pos) (f : Nat) (as : Es) (ks : List (Str × Pos)) (vs : Es) (pm : List Nat) : (evE S (.callk p pn f as ks vs pm)).a (x :: r) = (((avsOf (evEs S as) (x :: r)).bd fun q => (avsOf (evEs S vs) q.2).bd fun z => (Res.gt (permD (q.1 ++ z.1) pm)).bd fun l => callD S f l z.2 : R (Rv × En))).bd fun q => .ok (.dat q.1.d, q.2) := rfl
@[simp] theorem z_callk_d (p pn : Pos) (f : Nat) (as : Es) (ks : List (Str × Pos)) (vs : Es) (pm : List Nat) : (evE S (.callk p pn f as ks vs pm)).d (x :: r) = (((avsOf (evEs S as) (x :: r)).bd fun q => (avsOf (evEs S vs) q.2).bd fun z => (Res.gt (permD (q.1 ++ z.1) pm)).bd fun l => callD S f l z.2 : R (Rv × En))).bd fun q => .ok (q.1.d, q.2) := rfl
@[simp] theorem z_callk_o (p pn : Pos) (f : Nat) (as : Es) (ks : List (Str × Pos)) (vs : Es) (pm : List Nat) : (evE S (.callk p pn f as ks vs pm)).o (x :: r) = (((avsOf (evEs S as) (x :: r)).bd fun q => (avsOf (evEs S vs) q.2).bd fun z => (Res.gt (permD (q.1 ++ z.1) pm)).bd fun l => callD S f l z.2 : R (Rv × En))).bd fun q => optR q.1 q.2 := rfl
@[simp] theorem z_callk_t (p pn : Pos) (f : Nat) (as : Es) (ks : List (Str × Pos)) (vs : Es) (pm : List Nat) : (evE S (.callk p pn f as ks vs pm)).t (x :: r) = (((avsOf (evEs S as) (x :: r)).bd fun q => (avsOf (evEs S vs) q.2).bd fun z => (Res.gt (permD (q.1 ++ z.1) pm)).bd fun l => callD S f l z.2 : R (Rv × En))).bd fun q => (Res.gt (truD q.1.d)).bd fun b => .ok (b, q.2) := rfl
@[simp] theorem z_callk_c (p pn : Pos) (f : Nat) (as : Es) (ks : List (Str × Pos)) (vs : Es) (pm : List Nat) : (evE S (.callk p pn f as ks vs pm)).c (x :: r) = (((avsOf (evEs S as) (x :: r)).bd fun q => (avsOf (evEs S vs) q.2).bd fun z => (Res.gt (permD (q.1 ++ z.1) pm)).bd fun l => callD S f l z.2 : R (Rv × En))).bd fun q => (Res.gt (truD q.1.d)).bd fun b => .ok (b, q.2) := rfl
@[simp] theorem z_comp_v (p : Pos) (own : List (Str × Nat)) (sc : Scope) (elt : E) (tg : Tg) (it : It) (cnd : E) : (evE S (.comp p own sc elt tg it cnd)).v (x :: r) = (compV (own.map (·.2)) (evE S elt) (evE S cnd) (evTg S tg) (evIt S it) (x :: r) : R (Rv × En)) := rfl
@[simp] theorem z_comp_a (p : Pos) (own : List (Str × Nat)) (sc : Scope) (elt : E) (tg : Tg) (it : It) (cnd : E) : (evE S (.comp p own sc elt tg it cnd)).a (x :: r) = ((compV (own.map (·.2)) (evE S elt) (evE S cnd) (evTg S tg) (evIt S it) (x :: r) : R (Rv × En))).bd fun q => .ok (.dat q.1.d, q.2) := rfl
@[simp] theorem z_comp_d (p : Pos) (own : List (Str × Nat)) (sc : Scope) (elt : E) (tg : Tg) (it : It) (cnd : E) : (evE S (.comp p own sc elt tg it cnd)).d (x :: r) = ((compV (own.map (·.2)) (evE S elt) (evE S cnd) (evTg S tg) (evIt S it) (x :: r) : R (Rv × En))).bd fun q => .ok (q.1.d, q.2) := rfl
@[simp] theorem z_comp_o (p : Pos) (own : List (Str × Nat)) (sc : Scope) (elt : E) (tg : Tg) (it : It) (cnd : E) : (evE S (.comp p own sc elt tg it cnd)).o (x :: r) = ((compV (own.map (·.2)) (evE S elt) (evE S cnd) (evTg S tg) (evIt S it) (x :: r) : R (Rv × En))).bd fun q => optR q.1 q.2 := rfl
@[simp] theorem z_comp_t (p : Pos) (own : List (Str × Nat)) (sc : Scope) (elt : E) (tg : Tg) (it : It) (cnd : E) : (evE S (.comp p own sc elt tg it cnd)).t (x :: r) = ((compV (own.map (·.2)) (evE S elt) (evE S cnd) (evTg S tg) (evIt S it) (x :: r) : R (Rv × En))).bd fun q => (Res.gt (truD q.1.d)).bd fun b => .ok (b, q.2) := rfl
@[simp] theorem z_comp_c (p : Pos) (own : List (Str × Nat)) (sc : Scope) (elt : E) (tg : Tg) (it : It) (cnd : E) : (evE S (.comp p own sc elt tg it cnd)).c (x :: r) = ((compV (own.map (·.2)) (evE S elt) (evE S cnd) (evTg S tg) (evIt S it) (x :: r) : R (Rv × En))).bd fun q => (Res.gt (truD q.1.d)).bd fun b => .ok (b, q.2) := rfl
@[simp] theorem x_nil : evEs S .nil = [] := rfl
@[simp] theorem x_cons (e : E) (es : Es) : evEs S (.cons e es) = evE S e :: evEs S es := rfl
@[simp] theorem x_ds0 : dsOf [] (x :: r) = .ok ([], x :: r) := rfl
@[simp] theorem x_ds1 (e : Ev) (es : List Ev) : dsOf (e :: es) (x :: r) = (e.d (x :: r)).bd fun q => (dsOf es q.2).bd fun z => .ok (q.1 :: z.1, z.2) := rfl
@[simp] theorem x_as0 : avsOf [] (x :: r) = .ok ([], x :: r) := rfl
@[simp] theorem x_as1 (e : Ev) (es : List Ev) : avsOf (e :: es) (x :: r) = (e.a (x :: r)).bd fun q => (avsOf es q.2).bd fun z => .ok (q.1 :: z.1, z.2) := rfl
@[simp] theorem x_andV1 (e : Ev) : andV [e] (x :: r) = e.v (x :: r) := rfl
@[simp] theorem x_andV2 (e e' : Ev) (es : List Ev) : andV (e :: e' :: es) (x :: r) = (e.d (x :: r)).bd fun q => (Res.gt (truD q.1)).bd fun b => sel b (andV (e' :: es) q.2) (.ok (.val q.1, q.2)) := by
  show ((e.d (x :: r)).bd fun q => _) = _
  congr 1
@[simp] theorem x_orV1 (e : Ev) : orV [e] (x :: r) = e.v (x :: r) := rfl
@[simp] theorem x_orV2 (e e' : Ev) (es : List Ev) : orV (e :: e' :: es) (x :: r) = (e.d (x :: r)).bd fun q => (Res.gt (truD q.1)).bd fun b => sel b (.ok (.val q.1, q.2)) (orV (e' :: es) q.2) := by
  show ((e.d (x :: r)).bd fun q => _) = _
  congr 1
@[simp] theorem x_andT0 : andT [] (x :: r) = .ok (true, x :: r) := rfl
@[simp] theorem x_andT1 (e : Ev) (es : List Ev) : andT (e :: es) (x :: r) = (e.t (x :: r)).bd fun q => sel q.1 (andT es q.2) (.ok (false, q.2)) := by
  show ((e.t (x :: r)).bd fun q => _) = _
  congr 1
@[simp] theorem x_orT0 : orT [] (x :: r) = .ok (false, x :: r) := rfl
@[simp] theorem x_orT1 (e : Ev) (es : List Ev) : orT (e :: es) (x :: r) = (e.t (x :: r)).bd fun q => sel q.1 (.ok (true, q.2)) (orT es q.2) := by
  show ((e.t (x :: r)).bd fun q => _) = _
  congr 1
@[simp] theorem x_op {δ : Type} (f : D → D → Option δ) (a b : Ev) : opD f a b (x :: r) = (a.a (x :: r)).bd fun p => (b.a p.2).bd fun q => (Res.gt (p.1.see q.2)).bd fun x => (Res.gt (q.1.see q.2)).bd fun y => (Res.gt (f x y)).bd fun r => .ok (r, q.2) := rfl
@[simp] theorem x_cmp2D (o o' : Cop) (a b c : Ev) : cmp2D o o' a b c (x :: r) = (a.d (x :: r)).bd fun p => (b.d p.2).bd fun q => (Res.gt (cmpD o p.1 q.1)).bd fun r => sel r ((c.d q.2).bd fun z => (Res.gt (cmpD o' q.1 z.1)).bd fun r => .ok (r, z.2)) (.ok (false, q.2)) := by
  show ((a.d (x :: r)).bd fun p => (b.d p.2).bd fun q => (Res.gt (cmpD o p.1 q.1)).bd fun r => _) = _
  congr 1
  funext p
  congr 1
  funext q
  congr 1
  funext r
  cases r <;> rfl
end
end Mp

end

section
namespace Mp
open PySem PySem.Spec PyProof.Rows L2

section
variable (S : Sc) (x : Sv) (r : En)
/-- what follows a statement -/
def nxt (q : Fl × En) (k : En → R (Fl × En)) : R (Fl × En) := match q.1 with
  | .nx => k q.2
  | f => .ok (f, q.2)
@[simp] theorem nxt_nx (σ : En) (k : En → R (Fl × En)) : nxt (.nx, σ) k = k σ := rfl
@[simp] theorem nxt_ret (v : Rv) (σ : En) (k : En → R (Fl × En)) : nxt (.ret v, σ) k = .ok (.ret v, σ) := rfl
@[simp] theorem nxt_brk (σ : En) (k : En → R (Fl × En)) : nxt (.brk, σ) k = .ok (.brk, σ) := rfl
@[simp] theorem nxt_cnt (σ : En) (k : En → R (Fl × En)) : nxt (.cnt, σ) k = .ok (.cnt, σ) := rfl
@[simp] theorem y_nil : evSs S .nil (x :: r) = .ok (.nx, x :: r) := rfl
@[simp] theorem y_cons (s : Sm) (ss : Sms) : evSs S (.cons s ss) (x :: r) = (evS S s (x :: r)).bd fun q => nxt q (evSs S ss) := by
  show ((evS S s (x :: r)).bd fun q => _) = _
  congr 1
@[simp] theorem y_set (p : Pos) (t : Tg) (e : E) : evS S (.set p t e) (x :: r) = ((evE S e).v (x :: r)).bd fun q => (evTg S t q.1 q.2).bd fun σ => .ok (.nx, σ) := rfl
@[simp] theorem y_par2 (p p1 p2 : Pos) (k1 k2 : Nat) (q1 q2 : Pos) (i j : Nat) (a b : E) : evS S (.par2 p p1 p2 k1 k2 q1 q2 i j a b) (x :: r) = ((evE S a).d (x :: r)).bd fun q => ((evE S b).d q.2).bd fun z =>
      Res.nd (!(S.io == some i) && (!(S.io == some j) && decide (i < z.2.length ∧ j < z.2.length))) (.ok (.nx, (z.2.set i (.val q.1)).set j (.val z.1))) := rfl
@[simp] theorem y_par3 (p p1 p2 : Pos) (k1 k2 : Nat) (q1 q2 q3 : Pos) (i j l : Nat) (a b c : E) : evS S (.par3 p p1 p2 k1 k2 q1 q2 q3 i j l a b c) (x :: r) = ((evE S a).d (x :: r)).bd fun q => ((evE S b).d q.2).bd fun z => ((evE S c).d z.2).bd fun w =>
      Res.nd (!(S.io == some i) && (!(S.io == some j) && (!(S.io == some l) && decide (i < w.2.length ∧ j < w.2.length ∧ l < w.2.length)))) (.ok (.nx, ((w.2.set i (.val q.1)).set j (.val z.1)).set l (.val w.1))) := rfl
@[simp] theorem y_pv2 (p p1 p2 : Pos) (k1 k2 : Nat) (q1 q2 : Pos) (i j : Nat) (a b : E) : evS S (.pv2 p p1 p2 k1 k2 q1 q2 i j a b) (x :: r) = (avsOf [evE S a, evE S b] (x :: r)).bd fun q => pvPut S.io [i, j] q.1 q.2 := rfl
@[simp] theorem y_pv3 (p p1 p2 : Pos) (k1 k2 : Nat) (q1 q2 q3 : Pos) (i j l : Nat) (a b c : E) : evS S (.pv3 p p1 p2 k1 k2 q1 q2 q3 i j l a b c) (x :: r) = (avsOf [evE S a, evE S b, evE S c] (x :: r)).bd fun q => pvPut S.io [i, j, l] q.1 q.2 := rfl
@[simp] theorem pvPut_nil (io : Option Nat) (σ : En) : pvPut io [] [] σ = .ok (.nx, σ) := rfl
@[simp] theorem pvPut_cons (io : Option Nat) (i : Nat) (is : List Nat) (a : Av) (as : List Av) (σ : En) : pvPut io (i :: is) (a :: as) σ = (Res.gt (avSv a)).bd fun s => Res.nd (!(io == some i) && decide (i < σ.length)) (pvPut io is as (σ.set i s)) := rfl
@[simp] theorem avSv_dat (d : D) : avSv (.dat d) = some (.val d) := rfl
@[simp] theorem avSv_own (d : List D) : avSv (.own d) = some (.own d) := rfl
@[simp] theorem y_ex (p : Pos) (e : E) : evS S (.ex p e) (x :: r) = ((evE S e).v (x :: r)).bd fun q => .ok (.nx, q.2) := rfl
/-- an own list with one more -/
def appR (o : Option Sv) (i : Nat) (d : D) (σ : En) : R (Fl × En) := match o with
  | some (.own ds) => Res.nd (okLen (ds.length + 1)) (.ok (.nx, σ.set i (.own (ds ++ [d]))))
  | _ => .bad
@[simp] theorem appR_own (ds : List D) (i : Nat) (d : D) (σ : En) : appR (some (.own ds)) i d σ = Res.nd (okLen (ds.length + 1)) (.ok (.nx, σ.set i (.own (ds ++ [d])))) := rfl
@[simp] theorem y_app (p pc pa pn : Pos) (i : Nat) (e : E) : evS S (.app p pc pa pn i e) (x :: r) = (pkR ((x :: r)[i]?) i (x :: r)).bd fun p => ((evE S e).d p.2).bd fun q => appR (q.2[i]?) i q.1 q.2 := rfl
@[simp] theorem y_ifs (p : Pos) (c : E) (a b : Sms) : evS S (.ifs p c a b) (x :: r) = ((evE S c).t (x :: r)).bd fun q => sel q.1 (evSs S a q.2) (evSs S b q.2) := by
  show (((evE S c).t (x :: r)).bd fun q => _) = _
  congr 1
@[simp] theorem y_whl (p : Pos) (c : E) (b : Sms) : evS S (.whl p c b) (x :: r) = whileD (evE S c).t (evSs S b) (x :: r) := rfl
/-- a loop's turn -/
noncomputable def fb (t : Tg) (b : Sms) (d : D) (σ : En) : R (Fl × En) := (evTg S t (.val d) σ).bind (evSs S b)
@[simp] theorem fb_told (t : Tg) (b : Sms) (d : D) : fb S t b d (x :: r) = (evTg S t (.val d) (x :: r)).bd (evSs S b) := rfl
@[simp] theorem y_fors (p : Pos) (t : Tg) (it : It) (b : Sms) : evS S (.fors p t it b) (x :: r) = (evIt S it (x :: r)).bd fun q => forD (fb S t b) q.1 q.1.1 q.2 := rfl
@[simp] theorem y_ret (p : Pos) (e : E) : evS S (.ret p e) (x :: r) = ((evE S e).v (x :: r)).bd fun q => .ok (.ret q.1, q.2) := rfl
@[simp] theorem y_brk (p : Pos) : evS S (.brk p) (x :: r) = .ok (.brk, x :: r) := rfl
@[simp] theorem y_cnt (p : Pos) : evS S (.cnt p) (x :: r) = .ok (.cnt, x :: r) := rfl
@[simp] theorem y_pass (p : Pos) : evS S (.pass p) (x :: r) = .ok (.nx, x :: r) := rfl
@[simp] theorem y_nm (p : Pos) (i : Nat) (v : Rv) : evTg S (.nm p i) v (x :: r) = Res.nd (!(S.io == some i) && decide (i < (x :: r).length)) (.ok ((x :: r).set i (.val v.d))) := rfl
@[simp] theorem y_nmo (p : Pos) (i : Nat) (v : Rv) : evTg S (.nmo p i) v (x :: r) = Res.nd (!(S.io == some i) && decide (i < (x :: r).length)) (.ok ((x :: r).set i v.sv)) := rfl
@[simp] theorem y_tup (p : Pos) (k : Nat) (ts : Tgs) (ds : List D) : evTg S (.tup p k ts) (.val (.tuple ds)) (x :: r) = evTgs S ts ds (x :: r) := rfl
@[simp] theorem y_tg0 : evTgs S .nil [] (x :: r) = .ok (x :: r) := rfl
@[simp] theorem y_tg1 (t : Tg) (ts : Tgs) (d : D) (ds : List D) : evTgs S (.cons t ts) (d :: ds) (x :: r) = (evTg S t (.val d) (x :: r)).bd (evTgs S ts ds) := rfl
def subR (o : Option Sv) (i : Nat) (v : D) (k : D) (σ : En) : R En := match k, o with
  | .int k, some (.own ds) => (Res.gt (L2.ixN ds.length k)).bd fun j => .ok (σ.set i (.own (ds.set j v)))
  | _, _ => .bad
@[simp] theorem subR_own (ds : List D) (i : Nat) (v : D) (k : Int) (σ : En) : subR (some (.own ds)) i v (.int k) σ = (Res.gt (L2.ixN ds.length k)).bd fun j => .ok (σ.set i (.own (ds.set j v))) := rfl
@[simp] theorem y_sub (p pn : Pos) (i : Nat) (y : E) (v : Rv) : evTg S (.sub p pn i y) v (x :: r) = (pkR ((x :: r)[i]?) i (x :: r)).bd fun p => (noEx ((evE S y).d p.2)).bd fun q => subR (q.2[i]?) i v.d q.1 q.2 := by
  show ((pkAt i (x :: r)).bd fun p => (noEx ((evE S y).v p.2)).bd fun q => _) = ((pkAt i (x :: r)).bd fun p => _)
  congr 1
  funext p
  unfold Ev.d
  cases (evE S y).v p.2 with
  | bad => rfl
  | ex x e => rfl
  | ok q =>
    obtain ⟨r, σ'⟩ := q
    show (match r, σ'[i]? with
      | .val (.int k), some (.own ds) => (match L2.ixN ds.length k with
        | some j => (.ok (σ'.set i (.own (ds.set j v.d))) : R En)
        | none => .bad)
      | _, _ => .bad) = subR (σ'[i]?) i v.d r.d σ'
    unfold subR
    cases r with
    | own ds => cases σ'[i]? <;> rfl
    | val k =>
      cases k with
      | int k =>
        cases σ'[i]? with
        | none => rfl
        | some sv =>
          cases sv with
          | own ds =>
            show (match L2.ixN ds.length k with
              | some j => (.ok (σ'.set i (.own (ds.set j v.d))) : R En)
              | none => .bad) = (Res.gt (L2.ixN ds.length k)).bd fun j => .ok (σ'.set i (.own (ds.set j v.d)))
            cases L2.ixN ds.length k <;> rfl
          | _ => rfl
      | _ => cases σ'[i]? <;> rfl
@[simp] theorem noEx_rok {α : Type} (a : α) : noEx (.ok a : R α) = .ok a := rfl
/-- the items of an argument -/
def itemsR (a : Av) (o : Option Sv) (σ : En) : R (Src × En) := match a with
  | .dat (.list ds) => .ok ((ds, none), σ)
  | .dat (.tuple ds) => .ok ((ds, none), σ)
  | .pk i => (match o with
    | some (.own ds) => .ok ((ds, some i), σ)
    | _ => .bad)
  | _ => .bad
def pkOf : Av → Nat
  | .pk i => i
  | _ => 0
@[simp] theorem itemsR_l (ds : List D) (o : Option Sv) (σ : En) : itemsR (.dat (.list ds)) o σ = .ok ((ds, none), σ) := rfl
@[simp] theorem itemsR_t (ds : List D) (o : Option Sv) (σ : En) : itemsR (.dat (.tuple ds)) o σ = .ok ((ds, none), σ) := rfl
@[simp] theorem itemsR_o (ds : List D) (i : Nat) (σ : En) : itemsR (.pk i) (some (.own ds)) σ = .ok ((ds, some i), σ) := rfl
@[simp] theorem y_seq (e : E) : evIt S (.seq e) (x :: r) = ((evE S e).a (x :: r)).bd fun q => itemsR q.1 (q.2[pkOf q.1]?) q.2 := by
  show ((evE S e).a (x :: r)).bd _ = _
  congr 1
  funext q
  obtain ⟨a, σ⟩ := q
  cases a with
  | dat d => cases d <;> rfl
  | pk i =>
    show (match σ[i]? with
      | some (.own ds) => (.ok ((ds, some i), σ) : R (Src × En))
      | _ => .bad) = itemsR (.pk i) (σ[i]?) σ
    unfold itemsR
    cases σ[i]? with
    | none => rfl
    | some v => cases v <;> rfl
  | own ds => rfl
def rng1R (d : D) (σ : En) : R (Src × En) := match d with
  | .int j => Res.nd (small62 j) (.ok ((rngD 0 j, none), σ))
  | _ => .bad
@[simp] theorem rng1R_int (j : Int) (σ : En) : rng1R (.int j) σ = Res.nd (small62 j) (.ok ((rngD 0 j, none), σ)) := rfl
@[simp] theorem y_rng1 (p pn : Pos) (a : E) : evIt S (.rng1 p pn a) (x :: r) = ((evE S a).d (x :: r)).bd fun q => rng1R q.1 q.2 := rfl
def rng2R (d e : D) (σ : En) : R (Src × En) := match d, e with
  | .int i, .int j => Res.nd (small62 i && small62 j) (.ok ((rngD i j, none), σ))
  | _, _ => .bad
@[simp] theorem rng2R_int (i j : Int) (σ : En) : rng2R (.int i) (.int j) σ = Res.nd (small62 i && small62 j) (.ok ((rngD i j, none), σ)) := rfl
@[simp] theorem y_rng2 (p pn : Pos) (a b : E) : evIt S (.rng2 p pn a b) (x :: r) = ((evE S a).d (x :: r)).bd fun q => ((evE S b).d q.2).bd fun z => rng2R q.1 z.1 z.2 := rfl
def zipR (d e : D) (σ : En) : R (Src × En) := match d, e with
  | .list xs, .list ys => .ok ((zipD xs ys, none), σ)
  | .tuple xs, .tuple ys => .ok ((zipD xs ys, none), σ)
  | _, _ => .bad
@[simp] theorem zipR_l (xs ys : List D) (σ : En) : zipR (.list xs) (.list ys) σ = .ok ((zipD xs ys, none), σ) := rfl
@[simp] theorem zipR_t (xs ys : List D) (σ : En) : zipR (.tuple xs) (.tuple ys) σ = .ok ((zipD xs ys, none), σ) := rfl
@[simp] theorem y_zip (p pn : Pos) (a b : E) : evIt S (.zip p pn a b) (x :: r) = ((evE S a).d (x :: r)).bd fun q => ((evE S b).d q.2).bd fun z => zipR q.1 z.1 z.2 := rfl
variable (σ : En)

/-! ### calls -/
def ret1 (o : Out) (σ : En) : R (Rv × En) := match o with
  | .ok (r, _) => .ok (r, σ)
  | .ex x _ => .ex x σ
  | .bad => .bad
@[simp] theorem ret1_ok (v : Rv) (l : List D) : ret1 (.ok (v, l)) σ = .ok (v, σ) := rfl
theorem call_0 {S : Sc} {f : Nat} (h : S.sio f = none) (avs : List Av) : callD S f avs σ = (Res.gt (plainAll avs)).bd fun ds => ret1 (S.Φ f ds) σ := by
  unfold callD
  rw [h]
  simp only
  cases plainAll avs with
  | none => rfl
  | some ds =>
    show (match S.Φ f ds with
      | .ok (r, _) => (.ok (r, σ) : R (Rv × En))
      | .ex x _ => .ex x σ
      | .bad => .bad) = ret1 (S.Φ f ds) σ
    unfold ret1
    cases S.Φ f ds <;> rfl
/-- behind a call with an own slot -/
def retI (o : Out) (i : Nat) (σ : En) : R (Rv × En) := match o with
  | .ok (r, l) => .ok (r, σ.set i (.own l))
  | .ex x l => .ex x (σ.set i (.own l))
  | .bad => .bad
@[simp] theorem retI_ok (v : Rv) (l : List D) (i : Nat) : retI (.ok (v, l)) i σ = .ok (v, σ.set i (.own l)) := rfl
theorem call_io0 {S : Sc} {f i : Nat} (h : S.sio f = some 0) (avs : List Av) {ds bs : List D} (h2 : σ[i]? = some (.own ds)) (h3 : plainAll avs = some bs) : callD S f (.pk i :: avs) σ = retI (S.Φ f (.list ds :: bs)) i σ := by
  unfold callD
  rw [h]
  simp only [List.take_zero, List.getElem?_cons_zero, List.drop_succ_cons, List.drop_zero, Nat.zero_add, plainAll, h3, h2, List.nil_append]
  unfold retI
  cases S.Φ f (.list ds :: bs) <;> rfl
theorem call_own0 {S : Sc} {f : Nat} (h : S.sio f = some 0) (avs : List Av) {ds bs : List D} (h3 : plainAll avs = some bs) : callD S f (.own ds :: avs) σ = ret1 (S.Φ f (.list ds :: bs)) σ := by
  unfold callD
  rw [h]
  simp only [List.take_zero, List.getElem?_cons_zero, List.drop_succ_cons, List.drop_zero, Nat.zero_add, plainAll, h3, List.nil_append]
  unfold ret1
  cases S.Φ f (.list ds :: bs) <;> rfl
end

/-- a call with an own slot, the slot as it is found -/
def ioR (φ : List D → Out) (o : Option Sv) (bs : Option (List D)) (i : Nat) (σ : En) : R (Rv × En) := match o, bs with
  | some (.own ds), some bs => retI (φ (.list ds :: bs)) i σ
  | _, _ => .bad
@[simp] theorem ioR_own (φ : List D → Out) (ds bs : List D) (i : Nat) (σ : En) : ioR φ (some (.own ds)) (some bs) i σ = retI (φ (.list ds :: bs)) i σ := rfl
theorem call_ioR {S : Sc} {f i : Nat} {σ : En} (h : S.sio f = some 0) (avs : List Av) : callD S f (.pk i :: avs) σ = ioR (S.Φ f) (σ[i]?) (plainAll avs) i σ := by
  cases h3 : plainAll avs with
  | none =>
    unfold callD
    rw [h]
    simp only [List.take_zero, List.getElem?_cons_zero, List.drop_succ_cons, List.drop_zero, Nat.zero_add, plainAll, h3]
    unfold ioR
    cases σ[i]? with
    | none => rfl
    | some v => cases v <;> rfl
  | some bs =>
    cases h2 : σ[i]? with
    | none =>
      unfold callD
      rw [h]
      simp only [List.take_zero, List.getElem?_cons_zero, List.drop_succ_cons, List.drop_zero, Nat.zero_add, plainAll, h3, h2]
      rfl
    | some v =>
      cases v with
      | own ds => exact call_io0 σ h avs h2 h3
      | _ =>
        unfold callD
        rw [h]
        simp only [List.take_zero, List.getElem?_cons_zero, List.drop_succ_cons, List.drop_zero, Nat.zero_add, plainAll, h3, h2]
        rfl
theorem call_ownR {S : Sc} {f : Nat} {σ : En} (h : S.sio f = some 0) (avs : List Av) {ds : List D} : callD S f (.own ds :: avs) σ = (Res.gt (plainAll avs)).bd fun bs => ret1 (S.Φ f (.list ds :: bs)) σ := by
  cases h3 : plainAll avs with
  | none =>
    unfold callD
    rw [h]
    simp only [List.take_zero, List.getElem?_cons_zero, List.drop_succ_cons, List.drop_zero, Nat.zero_add, plainAll, h3]
    rfl
  | some bs => exact call_own0 σ h avs h3
@[simp] theorem plain0 : plainAll [] = some [] := rfl
def optC (d : D) (o : Option (List D)) : Option (List D) := o.map (d :: ·)
@[simp] theorem optC_some (d : D) (l : List D) : optC d (some l) = some (d :: l) := rfl
@[simp] theorem plain1 (d : D) (l : List Av) : plainAll (.dat d :: l) = optC d (plainAll l) := rfl
def optB (o : Option D) (l : Option (List D)) : Option (List D) := o.bind fun d => l.map (d :: ·)
@[simp] theorem optB_some (d : D) (l : List D) : optB (some d) (some l) = some (d :: l) := rfl
@[simp] theorem seeAll0 (σ : En) : seeAll σ [] = some [] := rfl
@[simp] theorem seeAll1 (σ : En) (a : Av) (l : List Av) : seeAll σ (a :: l) = optB (a.see σ) (seeAll σ l) := rfl
/-! ### defs -/
section
variable {fs : List Fn} {cst : Nat → D} {n f : Nat} {F : Fn} {ds : List D}
theorem run_at (h : fs[f]? = some F) (hl : ds.length = F.np) (hi : ioIn F.io ds = true) : run fs cst (n + 1) f ds = outD F.io (evSs (fnSc fs cst F.io (run fs cst n)) F.body (startE F.N.length F.io ds)) := by
  show (match fs[f]? with
    | none => (.bad : Out)
    | some F => Res.nd (decide (ds.length = F.np) && ioIn F.io ds) (outD F.io (evSs (fnSc fs cst F.io (run fs cst n)) F.body (startE F.N.length F.io ds)))) = _
  rw [h]
  simp only [hl, hi, decide_true, Bool.and_self, need_true]
/-- a def without an in-and-out list -/
def end0 (r : R (Fl × En)) : Out := match r with
  | .ok (.ret v, _) => .ok (v, [])
  | .ok (.nx, _) => .ok (.val .none, [])
  | .ok _ => .bad
  | .ex x _ => .ex x []
  | .bad => .bad
theorem outD_none (r : R (Fl × En)) : outD none r = end0 r := by
  cases r with
  | ok q =>
    obtain ⟨f, σ⟩ := q
    cases f <;> rfl
  | ex x e => rfl
  | bad => rfl
@[simp] theorem end0_ret (v : Rv) (σ : En) : end0 (.ok (.ret v, σ)) = .ok (v, []) := rfl
@[simp] theorem end0_nx (σ : En) : end0 (.ok (.nx, σ)) = .ok (.val .none, []) := rfl
theorem outD_ret {p : Nat} {σ : En} {v : Rv} {l : List D} (h : σ[p]? = some (.own l)) : outD (some p) (.ok (.ret v, σ)) = .ok (v, l) := by
  unfold outD ioOut
  simp only [h]
theorem outD_nx {p : Nat} {σ : En} {l : List D} (h : σ[p]? = some (.own l)) : outD (some p) (.ok (.nx, σ)) = .ok (.val .none, l) := by
  unfold outD ioOut
  simp only [h]
end

/-! ### loops over lists -/
section
variable {α : Type}
@[simp] theorem for_nil (b : D → En → R (Fl × En)) (ds : List D) (σ : En) : forD b (ds, none) [] σ = .ok (.nx, σ) := by
  unfold forD
  rw [if_pos (show lockOk (ds, none) σ from trivial)]
/-- what follows a loop's turn -/
def lp (q : Fl × En) (k : En → R (Fl × En)) : R (Fl × En) := match q.1 with
  | .nx => k q.2
  | .cnt => k q.2
  | .brk => .ok (.nx, q.2)
  | .ret v => .ok (.ret v, q.2)
@[simp] theorem lp_nx (σ : En) (k : En → R (Fl × En)) : lp (.nx, σ) k = k σ := rfl
@[simp] theorem lp_cnt (σ : En) (k : En → R (Fl × En)) : lp (.cnt, σ) k = k σ := rfl
@[simp] theorem lp_brk (σ : En) (k : En → R (Fl × En)) : lp (.brk, σ) k = .ok (.nx, σ) := rfl
@[simp] theorem lp_ret (r : Rv) (σ : En) (k : En → R (Fl × En)) : lp (.ret r, σ) k = .ok (.ret r, σ) := rfl
@[simp] theorem for_cons (b : D → En → R (Fl × En)) (ds : List D) (d : D) (r : List D) (σ : En) : forD b (ds, none) (d :: r) σ = (b d σ).bd fun q => lp q (forD b (ds, none) r) := by
  rw [forD, if_pos (show lockOk (ds, none) σ from trivial)]
  cases b d σ with
  | bad => rfl
  | ex x e => rfl
  | ok q =>
    obtain ⟨f, σ'⟩ := q
    cases f <;> rfl
/-- a comprehension whose turns are told: f a turn's item (none: left out), the slots as they were -/
theorem comp_map {b : D → En → R (Option D × En)} {s : Src} {σ : En} {f : D → Option D} (hl : lockOk s σ) : ∀ (l acc : List D), (∀ d ∈ l, b d σ = .ok (f d, σ)) → compD b s l acc σ = .ok (acc ++ l.filterMap f, σ)
  | [], acc, _ => by
    unfold compD
    rw [if_pos hl]
    simp
  | d :: l, acc, h => by
    unfold compD
    rw [if_pos hl, h d (List.mem_cons_self ..)]
    have ih := fun acc => comp_map (b := b) (f := f) hl l acc fun e he => h e (List.mem_cons_of_mem _ he)
    simp only [Res.bind]
    rw [List.filterMap_cons]
    cases f d with
    | none => exact ih acc
    | some e =>
      simp only
      rw [ih, List.append_assoc]
      rfl
end
end Mp

end

section
namespace Mp
open PySem PySem.Spec PyProof.Rows L2

/-! ### the operations at what is told -/

@[simp] theorem isi_none_int  (p : Pos) : isiD .none (.one p .int) = some false := by
  show kitB "NoneType" "int" = _
  decide +kernel
@[simp] theorem isi_none_bool  (p : Pos) : isiD .none (.one p .bool) = some false := by
  show kitB "NoneType" "bool" = _
  decide +kernel
@[simp] theorem isi_none_tuple  (p : Pos) : isiD .none (.one p .tuple) = some false := by
  show kitB "NoneType" "tuple" = _
  decide +kernel
@[simp] theorem isi_none_list  (p : Pos) : isiD .none (.one p .list) = some false := by
  show kitB "NoneType" "list" = _
  decide +kernel
@[simp] theorem isi_none_str  (p : Pos) : isiD .none (.one p .str) = some false := by
  show kitB "NoneType" "str" = _
  decide +kernel
@[simp] theorem isi_none_dict  (p : Pos) : isiD .none (.one p .dict) = some false := by
  show kitB "NoneType" "dict" = _
  decide +kernel
@[simp] theorem isi_bool_int (b : Bool) (p : Pos) : isiD (.bool b) (.one p .int) = some true := by
  show kitB "bool" "int" = _
  decide +kernel
@[simp] theorem isi_bool_bool (b : Bool) (p : Pos) : isiD (.bool b) (.one p .bool) = some true := by
  show kitB "bool" "bool" = _
  decide +kernel
@[simp] theorem isi_bool_tuple (b : Bool) (p : Pos) : isiD (.bool b) (.one p .tuple) = some false := by
  show kitB "bool" "tuple" = _
  decide +kernel
@[simp] theorem isi_bool_list (b : Bool) (p : Pos) : isiD (.bool b) (.one p .list) = some false := by
  show kitB "bool" "list" = _
  decide +kernel
@[simp] theorem isi_bool_str (b : Bool) (p : Pos) : isiD (.bool b) (.one p .str) = some false := by
  show kitB "bool" "str" = _
  decide +kernel
@[simp] theorem isi_bool_dict (b : Bool) (p : Pos) : isiD (.bool b) (.one p .dict) = some false := by
  show kitB "bool" "dict" = _
  decide +kernel
@[simp] theorem isi_int_int (i : Int) (p : Pos) : isiD (.int i) (.one p .int) = some true := by
  show kitB "int" "int" = _
  decide +kernel
@[simp] theorem isi_int_bool (i : Int) (p : Pos) : isiD (.int i) (.one p .bool) = some false := by
  show kitB "int" "bool" = _
  decide +kernel
@[simp] theorem isi_int_tuple (i : Int) (p : Pos) : isiD (.int i) (.one p .tuple) = some false := by
  show kitB "int" "tuple" = _
  decide +kernel
@[simp] theorem isi_int_list (i : Int) (p : Pos) : isiD (.int i) (.one p .list) = some false := by
  show kitB "int" "list" = _
  decide +kernel
@[simp] theorem isi_int_str (i : Int) (p : Pos) : isiD (.int i) (.one p .str) = some false := by
  show kitB "int" "str" = _
  decide +kernel
@[simp] theorem isi_int_dict (i : Int) (p : Pos) : isiD (.int i) (.one p .dict) = some false := by
  show kitB "int" "dict" = _
  decide +kernel
@[simp] theorem isi_str_int (s : Str) (p : Pos) : isiD (.str s) (.one p .int) = some false := by
  show kitB "str" "int" = _
  decide +kernel
@[simp] theorem isi_str_bool (s : Str) (p : Pos) : isiD (.str s) (.one p .bool) = some false := by
  show kitB "str" "bool" = _
  decide +kernel
@[simp] theorem isi_str_tuple (s : Str) (p : Pos) : isiD (.str s) (.one p .tuple) = some false := by
  show kitB "str" "tuple" = _
  decide +kernel
@[simp] theorem isi_str_list (s : Str) (p : Pos) : isiD (.str s) (.one p .list) = some false := by
  show kitB "str" "list" = _
  decide +kernel
@[simp] theorem isi_str_str (s : Str) (p : Pos) : isiD (.str s) (.one p .str) = some true := by
  show kitB "str" "str" = _
  decide +kernel
@[simp] theorem isi_str_dict (s : Str) (p : Pos) : isiD (.str s) (.one p .dict) = some false := by
  show kitB "str" "dict" = _
  decide +kernel
@[simp] theorem isi_list_int (l : List D) (p : Pos) : isiD (.list l) (.one p .int) = some false := by
  show kitB "list" "int" = _
  decide +kernel
@[simp] theorem isi_list_bool (l : List D) (p : Pos) : isiD (.list l) (.one p .bool) = some false := by
  show kitB "list" "bool" = _
  decide +kernel
@[simp] theorem isi_list_tuple (l : List D) (p : Pos) : isiD (.list l) (.one p .tuple) = some false := by
  show kitB "list" "tuple" = _
  decide +kernel
@[simp] theorem isi_list_list (l : List D) (p : Pos) : isiD (.list l) (.one p .list) = some true := by
  show kitB "list" "list" = _
  decide +kernel
@[simp] theorem isi_list_str (l : List D) (p : Pos) : isiD (.list l) (.one p .str) = some false := by
  show kitB "list" "str" = _
  decide +kernel
@[simp] theorem isi_list_dict (l : List D) (p : Pos) : isiD (.list l) (.one p .dict) = some false := by
  show kitB "list" "dict" = _
  decide +kernel
@[simp] theorem isi_tuple_int (l : List D) (p : Pos) : isiD (.tuple l) (.one p .int) = some false := by
  show kitB "tuple" "int" = _
  decide +kernel
@[simp] theorem isi_tuple_bool (l : List D) (p : Pos) : isiD (.tuple l) (.one p .bool) = some false := by
  show kitB "tuple" "bool" = _
  decide +kernel
@[simp] theorem isi_tuple_tuple (l : List D) (p : Pos) : isiD (.tuple l) (.one p .tuple) = some true := by
  show kitB "tuple" "tuple" = _
  decide +kernel
@[simp] theorem isi_tuple_list (l : List D) (p : Pos) : isiD (.tuple l) (.one p .list) = some false := by
  show kitB "tuple" "list" = _
  decide +kernel
@[simp] theorem isi_tuple_str (l : List D) (p : Pos) : isiD (.tuple l) (.one p .str) = some false := by
  show kitB "tuple" "str" = _
  decide +kernel
@[simp] theorem isi_tuple_dict (l : List D) (p : Pos) : isiD (.tuple l) (.one p .dict) = some false := by
  show kitB "tuple" "dict" = _
  decide +kernel
@[simp] theorem isi_dict_int (l : List (D × D)) (p : Pos) : isiD (.dict l) (.one p .int) = some false := by
  show kitB "dict" "int" = _
  decide +kernel
@[simp] theorem isi_dict_bool (l : List (D × D)) (p : Pos) : isiD (.dict l) (.one p .bool) = some false := by
  show kitB "dict" "bool" = _
  decide +kernel
@[simp] theorem isi_dict_tuple (l : List (D × D)) (p : Pos) : isiD (.dict l) (.one p .tuple) = some false := by
  show kitB "dict" "tuple" = _
  decide +kernel
@[simp] theorem isi_dict_list (l : List (D × D)) (p : Pos) : isiD (.dict l) (.one p .list) = some false := by
  show kitB "dict" "list" = _
  decide +kernel
@[simp] theorem isi_dict_str (l : List (D × D)) (p : Pos) : isiD (.dict l) (.one p .str) = some false := by
  show kitB "dict" "str" = _
  decide +kernel
@[simp] theorem isi_dict_dict (l : List (D × D)) (p : Pos) : isiD (.dict l) (.one p .dict) = some true := by
  show kitB "dict" "dict" = _
  decide +kernel
@[simp] theorem tru_n : truD .none = some false := rfl
@[simp] theorem tru_b (b : Bool) : truD (.bool b) = some b := rfl
@[simp] theorem tru_i (i : Int) : truD (.int i) = some (i != 0) := rfl
@[simp] theorem tru_l (l : List D) : truD (.list l) = some (!l.isEmpty) := rfl
@[simp] theorem tru_t (l : List D) : truD (.tuple l) = some (!l.isEmpty) := rfl
theorem ixN_nat {n i : Nat} (h : i < n) : L2.ixN n (i : Int) = some i := by
  unfold L2.ixN
  have h1 : (0 : Int) ≤ (i : Int) := by omega
  have h2 : (i : Int) < (n : Int) := by omega
  simp [h1, h2, h]
theorem ixD_nat {ds : List D} {i : Nat} {d : D} (h : ds[i]? = some d) : ixD ds (i : Int) = some d := by
  unfold ixD
  rw [ixN_nat (List.getElem?_eq_some_iff.mp h).1]
  exact h
@[simp] theorem ix_0 (x : D) (l : List D) : ixD (x :: l) 0 = some x := ixD_nat (i := 0) rfl
@[simp] theorem ix_1 (x y : D) (l : List D) : ixD (x :: y :: l) 1 = some y := ixD_nat (i := 1) rfl
@[simp] theorem ix_2 (x y z : D) (l : List D) : ixD (x :: y :: z :: l) 2 = some z := ixD_nat (i := 2) rfl
@[simp] theorem bin_add (i j : Int) : binD .add (.int i) (.int j) = some (.val (.int (i + j))) := rfl
@[simp] theorem bin_sub (i j : Int) : binD .sub (.int i) (.int j) = some (.val (.int (i - j))) := rfl
theorem okLen_le' {n : Nat} (h : n ≤ 4096) : okLen n = true := decide_eq_true (Nat.le_trans h (by decide))
@[simp] theorem bin_addL (xs ys : List D) (h : xs.length + ys.length ≤ 4096) : binD .add (.list xs) (.list ys) = some (.own (xs ++ ys)) := by
  show ned (okLen (xs.length + ys.length)) _ = _
  rw [okLen_le' h]
  rfl
@[simp] theorem bin_addT (xs ys : List D) (h : xs.length + ys.length ≤ 4096) : binD .add (.tuple xs) (.tuple ys) = some (.val (.tuple (xs ++ ys))) := by
  show ned (okLen (xs.length + ys.length)) _ = _
  rw [okLen_le' h]
  rfl
theorem bin_rep {xs : List D} {k : Nat} (h : k ≤ 1000 ∧ xs.length ≤ 1000) : binD .mul (.list xs) (.int (k : Nat)) = some (.own (List.replicate k xs).flatten) := by
  show ned (decide ((0 : Int) ≤ (k : Nat) ∧ ((k : Nat) : Int) ≤ 1000 ∧ xs.length ≤ 1000)) _ = _
  rw [decide_eq_true (by omega)]
  rfl
theorem bin_mul {i j : Int} (h : mulOk i j = true) : binD .mul (.int i) (.int j) = some (.val (.int (i * j))) := by
  show ned (mulOk i j) _ = _
  rw [h]
  rfl
@[simp] theorem cmp_lt (i j : Int) : cmpD .lt (.int i) (.int j) = some (decide (i < j)) := rfl
@[simp] theorem cmp_le (i j : Int) : cmpD .le (.int i) (.int j) = some (decide (i ≤ j)) := rfl
@[simp] theorem cmp_gt (i j : Int) : cmpD .gt (.int i) (.int j) = some (decide (j < i)) := rfl
@[simp] theorem cmp_ge (i j : Int) : cmpD .ge (.int i) (.int j) = some (decide (j ≤ i)) := rfl
@[simp] theorem cmp_eq (d e : D) : cmpD .eq d e = eqD d e := rfl
@[simp] theorem cmp_ne (d e : D) : cmpD .ne d e = (eqD d e).map fun c => !c := rfl
@[simp] theorem eq_nil (xs : List D) : eqD (.list xs) (.list []) = some xs.isEmpty := rfl
theorem eq_of {d e : D} (h1 : SeqAt.shaped d = true) (h2 : SeqAt.shaped e = true) : eqD d e = some (PyData.eqv d e) := by
  unfold eqD
  split
  · rename_i xs
    cases xs <;> rfl
  · rw [h1, h2]
    rfl
@[simp] theorem eq_int (i j : Int) : eqD (.int i) (.int j) = some (decide (i = j)) := by
  rw [eq_of (by simp [SeqAt.shaped, PyData.canLay0, PyData.depth]) (by simp [SeqAt.shaped, PyData.canLay0, PyData.depth])]
  simp [PyData.eqv]
  by_cases h : i = j <;> simp [h]
@[simp] theorem eq_bool (i j : Bool) : eqD (.bool i) (.bool j) = some (i == j) := by
  rw [eq_of (by simp [SeqAt.shaped, PyData.canLay0, PyData.depth]) (by simp [SeqAt.shaped, PyData.canLay0, PyData.depth])]
  simp [PyData.eqv]
@[simp] theorem eq_pair (a b c d : Int) : eqD (.tuple [.int a, .int b]) (.tuple [.int c, .int d]) = some (decide (a = c ∧ b = d)) := by
  rw [eq_of (by simp [SeqAt.shaped, PyData.canLay0, PyData.canLayAll0, PyData.depth, PyData.depthAll]) (by simp [SeqAt.shaped, PyData.canLay0, PyData.canLayAll0, PyData.depth, PyData.depthAll])]
  simp [PyData.eqv, PyData.eqvAll]
  by_cases h : a = c <;> by_cases h2 : b = d <;> simp [h, h2]
@[simp] theorem rb_ex {ε α β : Type} (x : Exc) (e : ε) (k : α → Res ε β) : (Res.ex x e : Res ε α).bd k = .ex x e := rfl
@[simp] theorem ret1_ex (x : Exc) (l : List D) (σ : En) : ret1 (.ex x l) σ = .ex x σ := rfl
@[simp] theorem end0_ex (x : Exc) (σ : En) : end0 (.ex x σ) = .ex x [] := rfl
@[simp] theorem y_rse (S : Sc) (x : Sv) (r : En) (p p2 pn : Pos) (c : Str) : evS S (.rse p p2 pn c) (x :: r) = .ex ⟨c, none⟩ (x :: r) := rfl
@[simp] theorem y_tr (S : Sc) (x : Sv) (r : En) (p : Pos) (b : Sms) (hs : List Hd) : evS S (.tr p b hs) (x :: r) = caught (evH S.io hs) (evSs S b (x :: r)) := rfl
@[simp] theorem caught_ok {α : Type} (k : Exc → En → R α) (a : α) : caught k (.ok a) = .ok a := rfl
@[simp] theorem caught_ex {α : Type} (k : Exc → En → R α) (x : Exc) (e : En) : caught k (.ex x e) = k x e := rfl
@[simp] theorem ex_dct0 (p : Pos) : extD (.dct0 p) [] = some (.val (.dict [])) := rfl
@[simp] theorem ex_dct1 (p : Pos) (kk : Nat) (pk : Pos) (s : Str) (vk : Nat) (pv : Pos) (i : Int) : extD (.dct1 p kk pk s vk pv i) [] = some (.val (.dict [(.str s, .int i)])) := rfl
@[simp] theorem ex_rev_l (a b c d : Pos) (k : Nat) (l : List D) : extD (.rev a b c d k) [.list l] = some (.own l.reverse) := rfl
@[simp] theorem ex_rev_t (a b c d : Pos) (k : Nat) (l : List D) : extD (.rev a b c d k) [.tuple l] = some (.val (.tuple l.reverse)) := rfl
@[simp] theorem bi_len_l (l : List D) : biD .len [.list l] = some (.val (.int l.length)) := rfl
@[simp] theorem bi_len_t (l : List D) : biD .len [.tuple l] = some (.val (.int l.length)) := rfl
@[simp] theorem bi_tup_l (l : List D) : biD .tuple [.list l] = some (.val (.tuple l)) := rfl
@[simp] theorem bi_tup_t (l : List D) : biD .tuple [.tuple l] = some (.val (.tuple l)) := rfl
@[simp] theorem bi_int_i (i : Int) : biD .int [.int i] = some (.val (.int i)) := rfl
@[simp] theorem bi_gcd (i j : Int) : biD .gcd [.int i, .int j] = some (.val (.int ((Nat.gcd i.natAbs j.natAbs : Nat) : Int))) := rfl
theorem bi_abs (i : Int) : biD .abs [.int i] = some (.val (.int (if i < 0 then -i else i))) := rfl

end Mp

end

section
namespace Mp
open PySem PySem.Spec PyProof.Rows L2

/-! ### comprehensions at told states -/
@[simp] theorem wipe0 (σ : En) : wipeE σ [] = σ := rfl
@[simp] theorem wipe1 (σ : En) (v : Nat) (vs : List Nat) : wipeE σ (v :: vs) = (wipeE σ vs).set v .un := rfl
def bk1 (o : Option Sv) (v : Nat) (σ : En) : En := match o with
  | some x => σ.set v x
  | none => σ
@[simp] theorem bk1_some (x : Sv) (v : Nat) (σ : En) : bk1 (some x) v σ = σ.set v x := rfl
@[simp] theorem back0 (σ₀ σ : En) : backE σ₀ σ [] = σ := rfl
@[simp] theorem back1 (σ₀ σ : En) (v : Nat) (vs : List Nat) : backE σ₀ σ (v :: vs) = bk1 (σ₀[v]?) v (backE σ₀ σ vs) := by
  show (match σ₀[v]? with
    | some x => (backE σ₀ σ vs).set v x
    | none => backE σ₀ σ vs) = _
  cases σ₀[v]? <;> rfl
section
variable (own : List Nat) (elt cnd : Ev) (tg : Rv → En → R En) (it : En → R (Src × En)) (x : Sv) (r : En)
@[simp] theorem comp_told : compV own elt cnd tg it (x :: r) = (it (x :: r)).bd fun q => Res.nd (okLen q.1.1.length) ((compD (turnD own elt cnd tg) q.1 q.1.1 [] q.2).bd fun z => .ok (.own z.1, backE q.2 z.2 own)) := rfl
@[simp] theorem turn_told (d : D) : turnD own elt cnd tg d (x :: r) = noEx ((tg (.val d) (wipeE (x :: r) own)).bd fun σ => (cnd.c σ).bd fun z => sel z.1 ((elt.d z.2).bd fun y => .ok (some y.1, y.2)) (.ok (none, z.2))) := by
  show noEx ((tg (.val d) (wipeE (x :: r) own)).bind fun σ => (cnd.c σ).bind fun z => _) = _
  congr 2
/-- a turn's item -/
def cN (o : Option D) (acc : List D) : List D := match o with
  | none => acc
  | some e => acc ++ [e]
@[simp] theorem cN_none (acc : List D) : cN none acc = acc := rfl
@[simp] theorem cN_some (e : D) (acc : List D) : cN (some e) acc = acc ++ [e] := rfl
@[simp] theorem compD_0 (b : D → En → R (Option D × En)) (ds acc : List D) (σ : En) : compD b (ds, none) [] acc σ = .ok (acc, σ) := by
  unfold compD
  rw [if_pos (show lockOk (ds, none) σ from trivial)]
@[simp] theorem compD_1 (b : D → En → R (Option D × En)) (ds acc : List D) (d : D) (l : List D) (σ : En) : compD b (ds, none) (d :: l) acc σ = (b d σ).bd fun q => compD b (ds, none) l (cN q.1 acc) q.2 := by
  rw [compD, if_pos (show lockOk (ds, none) σ from trivial)]
  cases b d σ with
  | bad => rfl
  | ex x e => rfl
  | ok q =>
    obtain ⟨o, σ'⟩ := q
    cases o <;> rfl
end
@[simp] theorem okLen_small {n : Nat} (h : n ≤ 4096) : okLen n = true := decide_eq_true (Nat.le_trans h (by decide))
theorem bin_fdiv {i j : Int} (h1 : j ≠ 0) (h2 : Builtin.divisionGoesByPylong i j = false) : binD .fdiv (.int i) (.int j) = some (.val (.int (i.fdiv j))) := by
  show ned (decide (j ≠ 0) && !(Builtin.divisionGoesByPylong i j)) _ = _
  rw [h2, decide_eq_true h1]
  rfl
theorem bin_mod {i j : Int} (h1 : j ≠ 0) : binD .mod (.int i) (.int j) = some (.val (.int (i.fmod j))) := by
  show ned (decide (j ≠ 0)) _ = _
  rw [decide_eq_true h1]
  rfl
/-- a comprehension over a list of any length: P holds of the slots at each turn, g d is what the turn of d adds -/
theorem comp_inv {b : D → En → R (Option D × En)} {ds : List D} {P : En → Prop} {g : D → Option D} : ∀ (l acc : List D) (σ : En), P σ → (∀ d ∈ l, ∀ σ, P σ → ∃ σ', b d σ = .ok (g d, σ') ∧ P σ') → ∃ σ', compD b (ds, none) l acc σ = .ok (acc ++ l.filterMap g, σ') ∧ P σ'
  | [], acc, σ, hP, _ => ⟨σ, by simp, hP⟩
  | d :: l, acc, σ, hP, h => by
    obtain ⟨σ1, e1, h1⟩ := h d (List.mem_cons_self ..) σ hP
    obtain ⟨σ2, e2, h2⟩ := comp_inv (ds := ds) l (cN (g d) acc) σ1 h1 fun d hd => h d (List.mem_cons_of_mem _ hd)
    refine ⟨σ2, ?_, h2⟩
    rw [compD_1, e1, rb_ok, e2, List.filterMap_cons]
    cases g d with
    | none => rfl
    | some e =>
      show Res.ok (acc ++ [e] ++ l.filterMap g, σ2) = _
      rw [List.append_assoc]
      rfl
end Mp

end

section
namespace Mp
open PySem PySem.Spec PyProof.Rows L2

/-! ### fractions -/
def fr (q : Rat) : D := .tuple [.int q.num, .int (q.den : Nat)]
/-- how great a number is -/
def Sz (k : Nat) (i : Int) : Prop := i.natAbs < 2 ^ k
theorem Sz.mono {k m : Nat} {i : Int} (h : Sz k i) (hm : k ≤ m) : Sz m i := Nat.lt_of_lt_of_le h (Nat.pow_le_pow_right (by decide) hm)
theorem Sz.log {k : Nat} {i : Int} (h : Sz k i) : i.natAbs.log2 < k ∨ i = 0 := by
  by_cases e : i.natAbs = 0
  · exact .inr (by omega)
  · exact .inl ((Nat.log2_lt e).mpr h)
theorem Sz.mulOk {k m : Nat} {i j : Int} (hi : Sz k i) (hj : Sz m j) (h : k + m ≤ 100000000) : mulOk i j = true := by
  unfold Mp.mulOk
  apply decide_eq_true
  have h1 : i.natAbs.log2 ≤ k := by
    rcases hi.log with h | h
    · omega
    · subst h
      simp
  have h2 : j.natAbs.log2 ≤ m := by
    rcases hj.log with h | h
    · omega
    · subst h
      simp
  omega
theorem Sz.mul {k m : Nat} {i j : Int} (hi : Sz k i) (hj : Sz m j) : Sz (k + m) (i * j) := by
  unfold Sz at *
  rw [Int.natAbs_mul, Nat.pow_add]
  exact Nat.mul_lt_mul'' hi hj
theorem Sz.add {k m : Nat} {i j : Int} (hi : Sz k i) (hj : Sz m j) : Sz (max k m + 1) (i + j) := by
  unfold Sz at *
  have h1 := Nat.lt_of_lt_of_le hi (Nat.pow_le_pow_right (n := 2) (by decide) (Nat.le_max_left k m))
  have h2 := Nat.lt_of_lt_of_le hj (Nat.pow_le_pow_right (n := 2) (by decide) (Nat.le_max_right k m))
  have h3 := Int.natAbs_add_le i j
  rw [Nat.pow_succ]
  omega
theorem Sz.neg {k : Nat} {i : Int} (hi : Sz k i) : Sz k (-i) := by
  unfold Sz at *
  rw [Int.natAbs_neg]
  exact hi
theorem Sz.sub {k m : Nat} {i j : Int} (hi : Sz k i) (hj : Sz m j) : Sz (max k m + 1) (i - j) := by
  rw [Int.sub_eq_add_neg]
  exact hi.add hj.neg
theorem bin_mulS {k m : Nat} {i j : Int} (hi : Sz k i) (hj : Sz m j) (h : k + m ≤ 100000000) : binD .mul (.int i) (.int j) = some (.val (.int (i * j))) := bin_mul (hi.mulOk hj h)
theorem bin_fdivS {k : Nat} {i j : Int} (hj : Sz k j) (h0 : j ≠ 0) (h : k ≤ 9000) : binD .fdiv (.int i) (.int j) = some (.val (.int (i.fdiv j))) := by
  refine bin_fdiv h0 (PyProof.noPylong_of_log2 ?_)
  rcases hj.log with z | z
  · omega
  · exact absurd z h0
theorem Sz.gcd {k : Nat} {a b : Int} (hb : Sz k b) (h : b ≠ 0) : Sz k ((Nat.gcd a.natAbs b.natAbs : Nat) : Int) := by
  unfold Sz at *
  rw [Int.natAbs_natCast]
  have h1 : b.natAbs ≠ 0 := by omega
  exact Nat.lt_of_le_of_lt (Nat.gcd_le_right _ (Nat.pos_of_ne_zero h1)) hb
theorem gcd_ne {a b : Int} (h : b ≠ 0) : ((Nat.gcd a.natAbs b.natAbs : Nat) : Int) ≠ 0 := by
  intro z
  have z : Nat.gcd a.natAbs b.natAbs = 0 := by omega
  have := (Nat.gcd_eq_zero_iff.mp z).2
  omega
theorem fdiv_gcd_l (a b : Int) : a.fdiv ((Nat.gcd a.natAbs b.natAbs : Nat) : Int) = a / ((Nat.gcd a.natAbs b.natAbs : Nat) : Int) := Int.fdiv_eq_ediv_of_nonneg _ (Int.natCast_nonneg _)
theorem fdiv_gcd_r (a b : Int) : b.fdiv ((Nat.gcd a.natAbs b.natAbs : Nat) : Int) = b / ((Nat.gcd a.natAbs b.natAbs : Nat) : Int) := Int.fdiv_eq_ediv_of_nonneg _ (Int.natCast_nonneg _)
/-- a fraction in its lowest form -/
theorem fr_low {a b : Int} (h : 0 < b) : PyData.tuple [.int (a / ((Nat.gcd a.natAbs b.natAbs : Nat) : Int)), .int (b / ((Nat.gcd a.natAbs b.natAbs : Nat) : Int))] = fr (Rat.divInt a b) := by
  unfold fr
  rw [Rat.num_divInt, Rat.den_divInt, if_neg (by omega), Int.sign_eq_one_of_pos h, Int.one_mul]
  have e : (b.gcd a : Nat) = Nat.gcd a.natAbs b.natAbs := Nat.gcd_comm _ _
  rw [e]
  congr 3
  congr 1
  rw [Int.natCast_ediv, Int.natAbs_of_nonneg (Int.le_of_lt h)]
/-- a fraction of a known size -/
def Sq (k : Nat) (q : Rat) : Prop := Sz k q.num ∧ Sz k (q.den : Nat)
theorem Sq.mono {k m : Nat} {q : Rat} (h : Sq k q) (hm : k ≤ m) : Sq m q := ⟨h.1.mono hm, h.2.mono hm⟩
theorem sq_divInt {k : Nat} {t b : Int} (ht : Sz k t) (hb : Sz k b) (h0 : b ≠ 0) : Sq k (Rat.divInt t b) := by
  refine ⟨?_, ?_⟩
  · rw [Rat.num_divInt]
    unfold Sz at *
    have h1 : (b.sign * t / ((b.gcd t : Nat) : Int)).natAbs ≤ (b.sign * t).natAbs := Int.natAbs_ediv_le_natAbs _ _
    have h2 : (b.sign * t).natAbs ≤ t.natAbs := by
      rw [Int.natAbs_mul]
      have : b.sign.natAbs ≤ 1 := by
        rw [Int.natAbs_sign]
        split <;> omega
      calc b.sign.natAbs * t.natAbs ≤ 1 * t.natAbs := Nat.mul_le_mul_right _ this
        _ = t.natAbs := Nat.one_mul _
    omega
  · rw [Rat.den_divInt, if_neg h0]
    unfold Sz at *
    rw [Int.natAbs_natCast]
    exact Nat.lt_of_le_of_lt (Nat.div_le_self _ _) hb
theorem den_ne (a : Rat) : ((a.den : Nat) : Int) ≠ 0 := by
  have := a.den_nz
  omega
theorem Sq.add {k : Nat} {a b : Rat} (ha : Sq k a) (hb : Sq k b) : Sq (2 * k + 1) (a + b) := by
  have f : Rat.divInt (a.num * (b.den : Nat) + b.num * (a.den : Nat)) ((a.den : Nat) * (b.den : Nat)) = a + b := by
    rw [← Rat.divInt_add_divInt _ _ (den_ne a) (den_ne b), Rat.num_divInt_den, Rat.num_divInt_den]
  rw [← f]
  exact sq_divInt (((ha.1.mul hb.2).add (hb.1.mul ha.2)).mono (by omega)) ((ha.2.mul hb.2).mono (by omega)) (Int.mul_ne_zero (den_ne a) (den_ne b))
theorem Sq.sub {k : Nat} {a b : Rat} (ha : Sq k a) (hb : Sq k b) : Sq (2 * k + 1) (a - b) := by
  have f : Rat.divInt (a.num * (b.den : Nat) - b.num * (a.den : Nat)) ((a.den : Nat) * (b.den : Nat)) = a - b := by
    rw [← Rat.divInt_sub_divInt _ _ (den_ne a) (den_ne b), Rat.num_divInt_den, Rat.num_divInt_den]
  rw [← f]
  exact sq_divInt (((ha.1.mul hb.2).sub (hb.1.mul ha.2)).mono (by omega)) ((ha.2.mul hb.2).mono (by omega)) (Int.mul_ne_zero (den_ne a) (den_ne b))
theorem Sq.mul {k : Nat} {a b : Rat} (ha : Sq k a) (hb : Sq k b) : Sq (2 * k) (a * b) := by
  have f : Rat.divInt (a.num * b.num) ((a.den : Nat) * (b.den : Nat)) = a * b := by
    rw [← Rat.divInt_mul_divInt, Rat.num_divInt_den, Rat.num_divInt_den]
  rw [← f]
  exact sq_divInt ((ha.1.mul hb.1).mono (by omega)) ((ha.2.mul hb.2).mono (by omega)) (Int.mul_ne_zero (den_ne a) (den_ne b))
theorem Sq.div {k : Nat} {a b : Rat} (ha : Sq k a) (hb : Sq k b) (h0 : b ≠ 0) : Sq (2 * k) (a / b) := by
  have hn : b.num ≠ 0 := fun z => h0 (Rat.num_eq_zero.mp z)
  have f : Rat.divInt (a.num * (b.den : Nat)) ((a.den : Nat) * b.num) = a / b := by
    rw [← Rat.divInt_mul_divInt, Rat.num_divInt_den, Rat.div_def, ← Rat.inv_divInt, Rat.num_divInt_den]
  rw [← f]
  exact sq_divInt ((ha.1.mul hb.2).mono (by omega)) ((ha.2.mul hb.1).mono (by omega)) (Int.mul_ne_zero (den_ne a) hn)
end Mp

end

section
namespace Mp
open PySem PySem.Spec PyProof.Rows L2

/-! ### sizes by one measure -/
/-- how many binary digits a whole number has -/
def lg (i : Int) : Nat := if i = 0 then 0 else i.natAbs.log2 + 1
theorem sz_lg (i : Int) : Sz (lg i) i := by
  unfold Sz lg
  by_cases h : i = 0
  · simp [h]
  · rw [if_neg h]
    exact Nat.lt_log2_self
theorem lg_le {i : Int} {k : Nat} (h : Sz k i) : lg i ≤ k := by
  unfold lg
  split
  · omega
  · rcases h.log with h | h
    · omega
    · contradiction
theorem lg_mul (i j : Int) : lg (i * j) ≤ lg i + lg j := lg_le ((sz_lg i).mul (sz_lg j))
theorem lg_add (i j : Int) : lg (i + j) ≤ lg i + lg j + 1 := lg_le (((sz_lg i).add (sz_lg j)).mono (by omega))
theorem lg_sub (i j : Int) : lg (i - j) ≤ lg i + lg j + 1 := lg_le (((sz_lg i).sub (sz_lg j)).mono (by omega))
theorem lg_neg (i : Int) : lg (-i) ≤ lg i := lg_le (sz_lg i).neg
theorem mulOk_lg {i j : Int} (h : lg i + lg j ≤ 100000000) : mulOk i j = true := (sz_lg i).mulOk (sz_lg j) h
theorem bin_mulL {i j : Int} (h : lg i + lg j ≤ 100000000) : binD .mul (.int i) (.int j) = some (.val (.int (i * j))) := bin_mul (mulOk_lg h)
theorem bin_fdivL {i j : Int} (h0 : j ≠ 0) (h : lg j ≤ 9000) : binD .fdiv (.int i) (.int j) = some (.val (.int (i.fdiv j))) := bin_fdivS (sz_lg j) h0 h
/-- of a fraction -/
def lq (q : Rat) : Nat := lg q.num + lg (q.den : Nat)
theorem lq_n (q : Rat) : lg q.num ≤ lq q := by unfold lq; omega
theorem lq_d (q : Rat) : lg (q.den : Nat) ≤ lq q := by unfold lq; omega
theorem lq_divInt {t b : Int} (h0 : b ≠ 0) : lq (Rat.divInt t b) ≤ lg t + lg b := by
  have h := sq_divInt (k := max (lg t) (lg b)) ((sz_lg t).mono (by omega)) ((sz_lg b).mono (by omega)) h0
  unfold lq
  have h1 : lg (Rat.divInt t b).num ≤ lg t := by
    apply lg_le
    have := sz_lg t
    unfold Sz at *
    rw [Rat.num_divInt]
    have h1 : (b.sign * t / ((b.gcd t : Nat) : Int)).natAbs ≤ (b.sign * t).natAbs := Int.natAbs_ediv_le_natAbs _ _
    have h2 : (b.sign * t).natAbs ≤ t.natAbs := by
      rw [Int.natAbs_mul]
      have : b.sign.natAbs ≤ 1 := by
        rw [Int.natAbs_sign]
        split <;> omega
      calc b.sign.natAbs * t.natAbs ≤ 1 * t.natAbs := Nat.mul_le_mul_right _ this
        _ = t.natAbs := Nat.one_mul _
    omega
  have h2 : lg ((Rat.divInt t b).den : Nat) ≤ lg b := by
    apply lg_le
    have := sz_lg b
    unfold Sz at *
    rw [Rat.den_divInt, if_neg h0, Int.natAbs_natCast]
    exact Nat.lt_of_le_of_lt (Nat.div_le_self _ _) this
  omega
theorem add_divInt (a b : Rat) : Rat.divInt (a.num * (b.den : Nat) + b.num * (a.den : Nat)) ((a.den : Nat) * (b.den : Nat)) = a + b := by
  rw [← Rat.divInt_add_divInt _ _ (den_ne a) (den_ne b), Rat.num_divInt_den, Rat.num_divInt_den]
theorem sub_divInt (a b : Rat) : Rat.divInt (a.num * (b.den : Nat) - b.num * (a.den : Nat)) ((a.den : Nat) * (b.den : Nat)) = a - b := by
  rw [← Rat.divInt_sub_divInt _ _ (den_ne a) (den_ne b), Rat.num_divInt_den, Rat.num_divInt_den]
theorem mul_divInt (a b : Rat) : Rat.divInt (a.num * b.num) ((a.den : Nat) * (b.den : Nat)) = a * b := by
  rw [← Rat.divInt_mul_divInt, Rat.num_divInt_den, Rat.num_divInt_den]
theorem div_divInt (a b : Rat) : Rat.divInt (a.num * (b.den : Nat)) ((a.den : Nat) * b.num) = a / b := by
  rw [← Rat.divInt_mul_divInt, Rat.num_divInt_den, Rat.div_def, ← Rat.inv_divInt, Rat.num_divInt_den]
theorem dens_ne (a b : Rat) : ((a.den : Nat) * (b.den : Nat) : Int) ≠ 0 := Int.mul_ne_zero (den_ne a) (den_ne b)
theorem num_ne {b : Rat} (h0 : b ≠ 0) : b.num ≠ 0 := fun z => h0 (Rat.num_eq_zero.mp z)
theorem lq_add (a b : Rat) : lq (a + b) ≤ 2 * lq a + 2 * lq b + 1 := by
  rw [← add_divInt]
  have := lq_divInt (t := a.num * (b.den : Nat) + b.num * (a.den : Nat)) (dens_ne a b)
  unfold lq at *
  grind [lg_mul, lg_add]
theorem lq_sub (a b : Rat) : lq (a - b) ≤ 2 * lq a + 2 * lq b + 1 := by
  rw [← sub_divInt]
  have := lq_divInt (t := a.num * (b.den : Nat) - b.num * (a.den : Nat)) (dens_ne a b)
  unfold lq at *
  grind [lg_mul, lg_sub]
theorem lq_mul (a b : Rat) : lq (a * b) ≤ lq a + lq b := by
  rw [← mul_divInt]
  have := lq_divInt (t := a.num * b.num) (dens_ne a b)
  unfold lq at *
  grind [lg_mul]
theorem lq_div {a b : Rat} (h0 : b ≠ 0) : lq (a / b) ≤ lq a + lq b := by
  rw [← div_divInt]
  have := lq_divInt (t := a.num * (b.den : Nat)) (b := (a.den : Nat) * b.num) (Int.mul_ne_zero (den_ne a) (num_ne h0))
  unfold lq at *
  grind [lg_mul]
theorem sq_lq (q : Rat) : Sq (lq q) q := ⟨(sz_lg _).mono (lq_n q), (sz_lg _).mono (lq_d q)⟩
end Mp

end

section
namespace Mp
open PySem PySem.Spec PyProof.Rows L2
/-- a corner -/
def cn (c : Rat × Rat) : D := .tuple [fr c.1, fr c.2]
abbrev KD (L : List (Rat × Rat)) : D := .tuple (L.map cn)
def lc (c : Rat × Rat) : Nat := lq c.1 + lq c.2
@[simp] theorem cut_1 (d : D) (l : List D) : Mp.cutD (d :: l) (some 1) none = l := by
  unfold Mp.cutD
  simp [HT.sIx]
@[simp] theorem sl_t (l : List D) (lo hi : Option Int) : slD (.tuple l) lo hi = some (.val (.tuple (Mp.cutD l lo hi))) := rfl
@[simp] theorem sl_l (l : List D) (lo hi : Option Int) : slD (.list l) lo hi = some (.own (Mp.cutD l lo hi)) := rfl
@[simp] theorem ix_m1 (d : D) (l : List D) : ixD (d :: l) (-1) = some ((d :: l).getLast (by simp)) := by
  unfold ixD L2.ixN
  have h1 : ¬ (0 : Int) ≤ -1 := by decide
  have h2 : -(((d :: l).length : Nat) : Int) ≤ -1 := by
    rw [List.length_cons]
    omega
  rw [if_neg h1, if_pos h2]
  have h3 : ((-1 : Int) + (((d :: l).length : Nat) : Int)).toNat = (d :: l).length - 1 := by
    rw [List.length_cons]
    omega
  show (d :: l)[((-1 : Int) + (((d :: l).length : Nat) : Int)).toNat]? = _
  rw [h3, List.getLast_eq_getElem, List.getElem?_eq_getElem]
theorem ixD_m1 {ds : List D} {d : D} (h : ds.getLast? = some d) : ixD ds (-1) = some d := by
  cases ds with
  | nil => cases h
  | cons x l =>
    rw [ix_m1, ← h, List.getLast?_eq_some_getLast]
def full (L : List (Rat × Rat)) : Rat := (L.getLastD (0, 0)).1
theorem ixD_full {L : List (Rat × Rat)} (h : L ≠ []) : ixD (L.map cn) (-1) = some (cn (L.getLastD (0, 0))) := by
  apply ixD_m1
  rw [List.getLast?_map]
  cases L with
  | nil => exact absurd rfl h
  | cons c l => rw [List.getLast?_eq_some_getLast (List.cons_ne_nil c l), List.getLastD_eq_getLast?, List.getLast?_eq_some_getLast (List.cons_ne_nil c l)]; rfl
/-- a kind's flow -/
def flowGo (x : Rat) : Rat × Rat → List (Rat × Rat) → Rat
  | _, [] => 0
  | last, c :: r => if c.1 < x then flowGo x c r else last.2 + (c.2 - last.2) / (c.1 - last.1) * (x - last.1)
def flow (L : List (Rat × Rat)) (x : Rat) : Rat := match L with
  | c :: l => flowGo x c l
  | [] => 0
/-- neighbours -/
def prs {α : Type} (L : List α) : List (α × α) := L.zip L.tail
@[simp] theorem prs_nil {α : Type} : prs ([] : List α) = [] := rfl
@[simp] theorem prs_one {α : Type} (a : α) : prs [a] = [] := rfl
@[simp] theorem prs_cons {α : Type} (a b : α) (l : List α) : prs (a :: b :: l) = (a, b) :: prs (b :: l) := rfl
/-- corners in order, of a size -/
structure Ord (k : Nat) (L : List (Rat × Rat)) : Prop where
  ne : L ≠ []
  sz : ∀ c ∈ L, lc c ≤ k
  inc : ∀ p ∈ prs L, p.1.1 < p.2.1
  len : L.length ≤ 100
theorem mem_prs {α : Type} {p : α × α} : ∀ {L : List α}, p ∈ prs L → p.1 ∈ L ∧ p.2 ∈ L
  | [], h => nomatch h
  | [_], h => nomatch h
  | a :: b :: l, h => by
    rw [prs_cons] at h
    rcases List.mem_cons.mp h with rfl | h
    · simp
    · obtain ⟨h1, h2⟩ := mem_prs h
      exact ⟨List.mem_cons_of_mem _ h1, List.mem_cons_of_mem _ h2⟩
theorem slope_size {c d : Rat × Rat} {k : Nat} (h1 : lc c ≤ k) (h2 : lc d ≤ k) (h0 : c.1 < d.1) : lq ((d.2 - c.2) / (d.1 - c.1)) ≤ 8 * k + 2 := by
  have nz : d.1 - c.1 ≠ 0 := by grind
  unfold lc at *
  grind [lq_div, lq_sub]
end Mp

end

section
namespace Mp
open PySem PySem.Spec PyProof.Rows L2

@[simp] theorem is_n_n : cmpD .is .none .none = some true := rfl
@[simp] theorem isn_n_n : cmpD .isn .none .none = some false := rfl
@[simp] theorem is_b_n (x : Bool) : cmpD .is (.bool x) .none = some false := rfl
@[simp] theorem isn_b_n (x : Bool) : cmpD .isn (.bool x) .none = some true := rfl
@[simp] theorem is_i_n (x : Int) : cmpD .is (.int x) .none = some false := rfl
@[simp] theorem isn_i_n (x : Int) : cmpD .isn (.int x) .none = some true := rfl
@[simp] theorem is_s_n (x : Str) : cmpD .is (.str x) .none = some false := rfl
@[simp] theorem isn_s_n (x : Str) : cmpD .isn (.str x) .none = some true := rfl
@[simp] theorem is_l_n (x : List D) : cmpD .is (.list x) .none = some false := rfl
@[simp] theorem isn_l_n (x : List D) : cmpD .isn (.list x) .none = some true := rfl
@[simp] theorem is_t_n (x : List D) : cmpD .is (.tuple x) .none = some false := rfl
@[simp] theorem isn_t_n (x : List D) : cmpD .isn (.tuple x) .none = some true := rfl
@[simp] theorem is_fr_n (x : Rat) : cmpD .is (fr x) .none = some false := rfl
@[simp] theorem isn_fr_n (x : Rat) : cmpD .isn (fr x) .none = some true := rfl
/-! ### comprehensions over lists of any length -/
section
variable {own : List Nat} {elt cnd : Ev} {tg : Rv → En → R En} {it : En → R (Src × En)} {σ : En} {α : Type}
/-- what a turn leaves: the slots but its own -/
def KeptE (own : List Nat) (σ σ' : En) : Prop := backE σ σ' own = σ ∧ wipeE σ' own = wipeE σ own
theorem turn_kept {σ' : En} {d : D} (h : KeptE own σ σ') : turnD own elt cnd tg d σ' = turnD own elt cnd tg d σ := by
  unfold turnD
  rw [h.2]
theorem comp_go {ds : List D} (f : α → D) (g : α → Option D) : ∀ (l : List α) (acc : List D) (σ' : En), KeptE own σ σ' → (∀ a ∈ l, ∃ σ', turnD own elt cnd tg (f a) σ = .ok (g a, σ') ∧ KeptE own σ σ') →
    ∃ σ'', compD (turnD own elt cnd tg) (ds, none) (l.map f) acc σ' = .ok (acc ++ l.filterMap g, σ'') ∧ KeptE own σ σ''
  | [], acc, σ', hk, _ => ⟨σ', by simp, hk⟩
  | a :: l, acc, σ', hk, h => by
    obtain ⟨σ1, e1, h1⟩ := h a (List.mem_cons_self ..)
    obtain ⟨σ2, e2, h2⟩ := comp_go (ds := ds) f g l (cN (g a) acc) σ1 h1 fun d hd => h d (List.mem_cons_of_mem _ hd)
    refine ⟨σ2, ?_, h2⟩
    rw [List.map_cons, compD_1, turn_kept hk, e1, rb_ok, e2, List.filterMap_cons]
    cases g a with
    | none => rfl
    | some e =>
      show Res.ok (acc ++ [e] ++ l.filterMap g, σ2) = _
      rw [List.append_assoc]
      rfl
/-- a comprehension: the items l.map f, g a what the turn of a adds -/
theorem comp_some (l : List α) (f : α → D) (g : α → Option D) (hit : it σ = .ok ((l.map f, none), σ)) (hn : l.length ≤ 4096) (h : ∀ a ∈ l, ∃ σ', turnD own elt cnd tg (f a) σ = .ok (g a, σ') ∧ KeptE own σ σ') :
    compV own elt cnd tg it σ = .ok (.own (l.filterMap g), σ) := by
  show ((it σ).bd fun q => Res.nd (okLen q.1.1.length) ((compD (turnD own elt cnd tg) q.1 q.1.1 [] q.2).bd fun z => (.ok (Rv.own z.1, backE q.2 z.2 own) : R (Rv × En)))) = _
  rw [hit, rb_ok]
  simp only [List.length_map, okLen_small hn, need_true]
  cases l with
  | nil =>
    simp
    have : ∀ vs : List Nat, backE σ σ vs = σ := fun vs => by
      induction vs with
      | nil => rfl
      | cons v vs ih =>
        rw [back1, ih]
        cases e : σ[v]? with
        | none => rfl
        | some x =>
          obtain ⟨hv, rfl⟩ := List.getElem?_eq_some_iff.mp e
          exact List.set_getElem_self hv
    exact this own
  | cons a l =>
    obtain ⟨σ1, e1, h1⟩ := h a (List.mem_cons_self ..)
    obtain ⟨σ2, e2, h2⟩ := comp_go (ds := (a :: l).map f) f g l (cN (g a) []) σ1 h1 fun d hd => h d (List.mem_cons_of_mem _ hd)
    rw [List.map_cons, compD_1, e1, rb_ok, ← List.map_cons, e2, rb_ok, List.filterMap_cons]
    simp only [h2.1]
    cases g a <;> rfl
/-- each turn adds one -/
theorem comp_each (l : List α) (f : α → D) (k : α → D) (hit : it σ = .ok ((l.map f, none), σ)) (hn : l.length ≤ 4096) (h : ∀ a ∈ l, ∃ σ', turnD own elt cnd tg (f a) σ = .ok (some (k a), σ') ∧ KeptE own σ σ') :
    compV own elt cnd tg it σ = .ok (.own (l.map k), σ) := by
  rw [comp_some l f (fun a => some (k a)) hit hn h, List.filterMap_eq_map']
/-- the items that are so -/
theorem comp_filter (l : List α) (f : α → D) (k : α → D) (p : α → Bool) (hit : it σ = .ok ((l.map f, none), σ)) (hn : l.length ≤ 4096) (h : ∀ a ∈ l, ∃ σ', turnD own elt cnd tg (f a) σ = .ok (if p a then some (k a) else none, σ') ∧ KeptE own σ σ') :
    compV own elt cnd tg it σ = .ok (.own ((l.filter p).map k), σ) := by
  rw [comp_some l f (fun a => if p a then some (k a) else none) hit hn h]
  congr 3
  clear h hit hn
  induction l with
  | nil => rfl
  | cons a l ih =>
    rw [List.filterMap_cons, List.filter_cons]
    by_cases hp : p a = true
    · simp [hp, ih]
    · simp [hp, ih]
/-- none is so -/
theorem comp_none (l : List α) (f : α → D) (hit : it σ = .ok ((l.map f, none), σ)) (hn : l.length ≤ 4096) (h : ∀ a ∈ l, ∃ σ', turnD own elt cnd tg (f a) σ = .ok (none, σ') ∧ KeptE own σ σ') :
    compV own elt cnd tg it σ = .ok (.own [], σ) := by
  rw [comp_some l f (fun _ => none) hit hn h]
  congr 3
  clear h hit hn
  induction l with
  | nil => rfl
  | cons a l ih => rw [List.filterMap_cons]; exact ih
end
/-! ### loops over lists of any length -/
/-- what a turn does: goes on, breaks, returns -/
inductive Tn1 (β : Type) where
  | go (b : β)
  | out (b : β)
  | ret (v : Rv)
def loopR {α β : Type} (step : β → α → Tn1 β) : β → List α → Tn1 β
  | b, [] => .go b
  | b, a :: l => match step b a with
    | .go b' => loopR step b' l
    | .out b' => .out b'
    | .ret v => .ret v
def Tn1.is {β : Type} (P : β → En → Prop) (t : Tn1 β) (z : R (Fl × En)) : Prop := match t with
  | .go b => ∃ σ, z = .ok (.nx, σ) ∧ P b σ
  | .out b => ∃ σ, z = .ok (.brk, σ) ∧ P b σ
  | .ret v => ∃ σ, z = .ok (.ret v, σ)
def Tn1.fin {β : Type} (P : β → En → Prop) (t : Tn1 β) (z : R (Fl × En)) : Prop := match t with
  | .go b => ∃ σ, z = .ok (.nx, σ) ∧ P b σ
  | .out b => ∃ σ, z = .ok (.nx, σ) ∧ P b σ
  | .ret v => ∃ σ, z = .ok (.ret v, σ)
/-- a for loop: P says what the slots hold -/
theorem for_rel {α β : Type} {S : Sc} {T : Tg} {B : Sms} {ds : List D} {f : α → D} (P : β → En → Prop) (step : β → α → Tn1 β) : ∀ {l : List α} {σ : En} {z : R (Fl × En)} {b : β}, forD (fb S T B) (ds, none) (l.map f) σ = z → P b σ →
    (∀ b a σ, a ∈ l → P b σ → (step b a).is P (fb S T B (f a) σ)) → (loopR step b l).fin P z
  | [], σ, z, b, hz, hP, _ => ⟨σ, by rw [← hz]; simp, hP⟩
  | a :: l, σ, z, b, hz, hP, h => by
    have e := h b a σ (List.mem_cons_self ..) hP
    rw [List.map_cons, for_cons] at hz
    show (match step b a with
      | .go b' => loopR step b' l
      | .out b' => .out b'
      | .ret v => .ret v : Tn1 β).fin P z
    cases hs : step b a with
    | go b' =>
      rw [hs] at e
      obtain ⟨σ1, e1, h1⟩ := e
      rw [e1, rb_ok, lp_nx] at hz
      exact for_rel P step hz h1 fun b a σ ha => h b a σ (List.mem_cons_of_mem _ ha)
    | out b' =>
      rw [hs] at e
      obtain ⟨σ1, e1, h1⟩ := e
      rw [e1, rb_ok, lp_brk] at hz
      exact ⟨σ1, hz.symm, h1⟩
    | ret v =>
      rw [hs] at e
      obtain ⟨σ1, e1⟩ := e
      rw [e1, rb_ok, lp_ret] at hz
      exact ⟨σ1, hz.symm⟩
end Mp

end

section
namespace Mp
open PySem PySem.Spec PyProof.Rows L2

theorem num_pos {q : Rat} : 0 < q.num ↔ 0 < q := by
  have h1 := @Rat.num_nonneg q
  have h2 := @Rat.num_eq_zero q
  constructor
  · intro h
    have a := h1.mp (by omega)
    have b : q ≠ 0 := fun z => by rw [h2.mpr z] at h; omega
    grind
  · intro h
    have a := h1.mpr (by grind)
    have b : q.num ≠ 0 := fun z => by rw [h2.mp z] at h; grind
    omega
theorem num_neg {q : Rat} : q.num < 0 ↔ q < 0 := by
  have h1 := @Rat.num_nonneg q
  constructor
  · intro h
    have : ¬ 0 ≤ q := fun z => by have := h1.mpr z; omega
    grind
  · intro h
    have : ¬ 0 ≤ q.num := fun z => by have := h1.mp z; grind
    omega
theorem num_nonpos {q : Rat} : q.num ≤ 0 ↔ q ≤ 0 := by
  have h1 := @num_pos q
  constructor
  · intro h
    have : ¬ 0 < q := fun z => by have := h1.mpr z; omega
    grind
  · intro h
    have : ¬ 0 < q.num := fun z => by have := h1.mp z; grind
    omega
theorem fr_inj {a b : Rat} : fr a = fr b ↔ a = b := by
  constructor
  · intro h
    unfold fr at h
    injection h with h
    injection h with h1 h2
    injection h2 with h2
    injection h1 with h1
    injection h2 with h2
    apply Rat.ext h1
    omega
  · intro h
    rw [h]
theorem eqD_fr (a b : Rat) : eqD (fr a) (fr b) = some (decide (a = b)) := by
  unfold fr
  rw [eq_pair]
  congr 1
  apply decide_eq_decide.mpr
  constructor
  · rintro ⟨h1, h2⟩
    exact Rat.ext h1 (by omega)
  · rintro rfl
    simp
theorem eqv_fr (a b : Rat) : PyData.eqv (fr a) (fr b) = decide (a = b) := by
  have h := eqD_fr a b
  unfold fr at h
  rw [eq_of (by simp [SeqAt.shaped, PyData.canLay0, PyData.canLayAll0, PyData.depth, PyData.depthAll]) (by simp [SeqAt.shaped, PyData.canLay0, PyData.canLayAll0, PyData.depth, PyData.depthAll])] at h
  exact Option.some.inj h
theorem eqD_cn (a b : Rat × Rat) : eqD (cn a) (cn b) = some (decide (a = b)) := by
  rw [eq_of (by unfold cn fr; simp [SeqAt.shaped, PyData.canLay0, PyData.canLayAll0, PyData.depth, PyData.depthAll]) (by unfold cn fr; simp [SeqAt.shaped, PyData.canLay0, PyData.canLayAll0, PyData.depth, PyData.depthAll])]
  unfold cn
  simp only [PyData.eqv, PyData.eqvAll, eqv_fr, Bool.and_true]
  by_cases h1 : a.1 = b.1 <;> by_cases h2 : a.2 = b.2 <;> simp [h1, h2, Prod.ext_iff]
theorem fr_0 : fr 0 = .tuple [.int 0, .int 1] := rfl
theorem fr_1 : fr 1 = .tuple [.int 1, .int 1] := rfl
theorem cn_0 : cn (0, 0) = .tuple [.tuple [.int 0, .int 1], .tuple [.int 0, .int 1]] := rfl
/-- slopes of pieces -/
def slope (p : (Rat × Rat) × (Rat × Rat)) : Rat := (p.2.2 - p.1.2) / (p.2.1 - p.1.1)
def slopes (L : List (Rat × Rat)) : List Rat := (prs L).map slope
/-- a kind of road -/
structure VK (L : List (Rat × Rat)) : Prop where
  len : 3 ≤ L.length
  len2 : L.length ≤ 12
  hd : L.head? = some (0, 0)
  lst : (L.getLastD (0, 0)).2 = 0
  mid : ∀ c ∈ L.tail.dropLast, 0 < c.2
  inc : ∀ p ∈ prs L, p.1.1 < p.2.1
  dec : ∀ p ∈ prs (slopes L), p.2 < p.1
theorem VK.ord {L : List (Rat × Rat)} (h : VK L) {k : Nat} (hs : ∀ c ∈ L, lc c ≤ k) : Ord k L := ⟨by
  have := h.len
  rintro rfl
  simp at this, hs, h.inc, by have := h.len2; omega⟩
/-- a pair of two -/
def pr2 (f : α → D) (p : α × α) : D := .tuple [f p.1, f p.2]
theorem zip_prs {α : Type} (f : α → D) : ∀ (L : List α), zipD (L.map f) (L.map f).tail = (prs L).map (pr2 f)
  | [] => rfl
  | [_] => rfl
  | a :: b :: l => congrArg (pr2 f (a, b) :: ·) (zip_prs f (b :: l))
theorem prs_length {α : Type} : ∀ (L : List α), (prs L).length = L.length - 1
  | [] => rfl
  | [_] => rfl
  | a :: b :: l => by
    rw [prs_cons, List.length_cons, prs_length (b :: l)]
    rfl
theorem cutD_tail (l : List D) : Mp.cutD l (some 1) none = l.tail := by
  cases l with
  | nil => rfl
  | cons d l => rw [cut_1]; rfl
theorem cutD_mid (l : List D) : Mp.cutD l (some 1) (some (-1)) = l.tail.dropLast := by
  cases l with
  | nil => rfl
  | cons d l =>
    unfold Mp.cutD
    have h1 : HT.sIx (d :: l).length 0 (some 1) = 1 := by simp [HT.sIx]
    have h2 : HT.sIx (d :: l).length (d :: l).length (some (-1)) = l.length := by
      simp [HT.sIx]
      try omega
    rw [h1, h2, List.dropLast_eq_take]
    simp
theorem cutD_take (l : List D) (k : Nat) (h : k ≤ l.length) : Mp.cutD l none (some (k : Int)) = l.take k := by
  unfold Mp.cutD
  have h1 : HT.sIx l.length 0 none = 0 := rfl
  have h2 : HT.sIx l.length l.length (some (k : Int)) = k := by
    simp [HT.sIx]
    rw [if_neg (by omega)]
    omega
  rw [h1, h2]
  simp
theorem cutD_drop (l : List D) (k : Nat) (h : k ≤ l.length) : Mp.cutD l (some (k : Int)) none = l.drop k := by
  unfold Mp.cutD
  have h1 : HT.sIx l.length 0 (some (k : Int)) = k := by
    simp [HT.sIx]
    rw [if_neg (by omega)]
    omega
  have h2 : HT.sIx l.length l.length none = l.length := rfl
  rw [h1, h2]
  apply List.take_of_length_le
  simp
end Mp

end

section
namespace Mp
open PySem PySem.Spec PyProof.Rows L2

/-! ### where draws come from -/
structure Ck where
  a : Int
  s : Int
  n : Int
def Ck.l (C : Ck) : List D := [.int C.a, .int C.s, .int C.n]
structure Ck.ok (k : Int) (C : Ck) : Prop where
  a0 : 0 ≤ C.a
  s0 : 0 ≤ C.s
  s1 : C.s < 2147483648
  n0 : 0 ≤ C.n
  n1 : C.n ≤ k
theorem Ck.ok.mono {k m : Int} {C : Ck} (h : C.ok k) (hm : k ≤ m) : C.ok m := { h with n1 := Int.le_trans h.n1 hm }
def tapN (C : Ck) : Int := (C.s * (C.s % 30011 + 20011) + 50021 * (C.n + 1) + 3) % 2147483629
def tapV (C : Ck) (t : Int) : Int := if 0 < C.a then C.a % t else (tapN C / 97) % t
def tapS (C : Ck) (t : Int) : Ck := if 0 < C.a then ⟨C.a / t, C.s, C.n⟩ else ⟨C.a, tapN C, C.n + 1⟩
theorem tapN_lo (C : Ck) : 0 ≤ tapN C := Int.emod_nonneg _ (by decide)
theorem tapN_hi (C : Ck) : tapN C < 2147483629 := Int.emod_lt_of_pos _ (by decide)
theorem tapV_lo (C : Ck) {t : Int} (h : 0 < t) : 0 ≤ tapV C t := by
  unfold tapV
  split <;> exact Int.emod_nonneg _ (by omega)
theorem tapV_hi (C : Ck) {t : Int} (h : 0 < t) : tapV C t < t := by
  unfold tapV
  split <;> exact Int.emod_lt_of_pos _ h
theorem Ck.ok.tap {k : Int} {C : Ck} (h : C.ok k) {t : Int} (ht : 0 < t) : (tapS C t).ok (k + 1) := by
  have h1 := h.1
  have h2 := h.2
  have h3 := h.3
  have h4 := h.4
  have h5 := h.5
  unfold tapS
  split
  · exact ⟨Int.ediv_nonneg h1 (by omega), h2, h3, h4, by show C.n ≤ k + 1; omega⟩
  · have := tapN_lo C
    have := tapN_hi C
    exact ⟨h1, by show 0 ≤ tapN C; omega, by show tapN C < 2147483648; omega, by show 0 ≤ C.n + 1; omega, by show C.n + 1 ≤ k + 1; omega⟩
theorem lg_lt {i : Int} {k : Nat} (h0 : 0 ≤ i) (h : i < 2 ^ k) : lg i ≤ k := by
  apply lg_le
  unfold Sz
  have : ((2 ^ k : Nat) : Int) = 2 ^ k := by simp
  omega
theorem fmod_pos (i : Int) {j : Int} (h : 0 < j) : i.fmod j = i % j := Int.fmod_eq_emod_of_nonneg _ (by omega)
theorem fdiv_pos (i : Int) {j : Int} (h : 0 < j) : i.fdiv j = i / j := Int.fdiv_eq_ediv_of_nonneg _ (by omega)
theorem bin_modP {i j : Int} (h : 0 < j) : binD .mod (.int i) (.int j) = some (.val (.int (i % j))) := by
  rw [bin_mod (by omega), fmod_pos i h]
theorem bin_fdivP {i j : Int} (h : 0 < j) (h2 : lg j ≤ 9000) : binD .fdiv (.int i) (.int j) = some (.val (.int (i / j))) := by
  rw [bin_fdivL (by omega) h2, fdiv_pos i h]
@[simp] theorem bi_divmod {i j : Int} (h : 0 < j) (h2 : j < 1073741824) : biD .divmod [.int i, .int j] = some (.val (.tuple [.int (i / j), .int (i % j)])) := by
  show ned (decide (0 < j ∧ j < 1073741824)) _ = _
  rw [decide_eq_true ⟨h, h2⟩]
  rfl
@[simp] theorem bi_abs_f (i : Int) : biD .abs [.int i] = some (.val (.int ((i.natAbs : Nat) : Int))) := by
  rw [bi_abs]
  congr 3
  split <;> omega
@[simp] theorem ixN_in {n : Nat} {i : Int} (h0 : 0 ≤ i) (h1 : i < (n : Nat)) : L2.ixN n i = some i.toNat := by
  obtain ⟨k, rfl⟩ := Int.eq_ofNat_of_zero_le h0
  exact ixN_nat (by omega)
def outO (o : Option Sv) (v : Rv) : Out := match o with
  | some (.own l) => .ok (v, l)
  | _ => .bad
@[simp] theorem outO_own (l : List D) (v : Rv) : outO (some (.own l)) v = .ok (v, l) := rfl
@[simp] theorem outD_some_ret (p : Nat) (v : Rv) (σ : En) : outD (some p) (.ok (.ret v, σ)) = outO (σ[p]?) v := by
  unfold outD ioOut outO
  cases h : σ[p]? with
  | none => simp only [h]
  | some x => cases x <;> simp only [h]
@[simp] theorem outD_some_nx (p : Nat) (σ : En) : outD (some p) (.ok (.nx, σ)) = outO (σ[p]?) (.val .none) := by
  unfold outD ioOut outO
  cases h : σ[p]? with
  | none => simp only [h]
  | some x => cases x <;> simp only [h]
theorem ixD_int {ds : List D} {i : Int} {d : D} (h0 : 0 ≤ i) (h : ds[i.toNat]? = some d) : ixD ds i = some d := by
  obtain ⟨k, rfl⟩ := Int.eq_ofNat_of_zero_le h0
  exact ixD_nat h
end Mp

end

section
namespace Mp
open PySem PySem.Spec PyProof.Rows L2

/-- a while loop without break or return: P says what the slots hold, m falls -/
theorem while_rel {β : Type} {c : En → R (Bool × En)} {b : En → R (Fl × En)} (P : β → En → Prop) (m : β → Nat) : ∀ {k : Nat} {σ : En} {z : R (Fl × En)} {x : β}, whileD c b σ = z → P x σ → m x = k →
    (∀ x σ, P x σ → (∃ σ', c σ = .ok (false, σ') ∧ P x σ' ) ∨ (∃ σ' σ'' y f, c σ = .ok (true, σ') ∧ b σ' = .ok (f, σ'') ∧ (f = .nx ∨ f = .cnt) ∧ P y σ'' ∧ m y < m x)) →
    ∃ y σ' σ0, z = .ok (.nx, σ') ∧ P y σ' ∧ P y σ0 ∧ c σ0 = .ok (false, σ') := by
  intro k
  induction k using Nat.strongRecOn with
  | _ k ih =>
    intro σ z x hz hP hm h
    rw [whileD_eq] at hz
    rcases h x σ hP with ⟨σ', e, hP'⟩ | ⟨σ', σ'', y, f, e1, e2, hf, hP', hlt⟩
    · rw [e] at hz
      exact ⟨x, σ', σ, hz.symm, hP', hP, e⟩
    · rw [e1] at hz
      have hz : ((b σ').bind fun z => match z.1 with
        | .nx => whileD c b z.2
        | .cnt => whileD c b z.2
        | .brk => .ok (.nx, z.2)
        | .ret v => .ok (.ret v, z.2)) = z := hz
      rw [e2] at hz
      have hz : whileD c b σ'' = z := by
        rcases hf with rfl | rfl <;> exact hz
      exact ih (m y) (by omega) hz hP' rfl h
theorem ixD_getD {ds : List D} {i : Int} (h0 : 0 ≤ i) (h : i < ds.length) : ixD ds i = some (ds.getD i.toNat .none) := by
  obtain ⟨k, rfl⟩ := Int.eq_ofNat_of_zero_le h0
  have hk : k < ds.length := by omega
  apply ixD_nat
  simp [List.getD_eq_getElem?_getD, List.getElem?_eq_getElem hk]
def Tn1.is2 {β : Type} (P Q : β → En → Prop) (t : Tn1 β) (z : R (Fl × En)) : Prop := match t with
  | .go b => ∃ σ, z = .ok (.nx, σ) ∧ P b σ
  | .out b => ∃ σ, z = .ok (.brk, σ) ∧ Q b σ
  | .ret v => ∃ σ, z = .ok (.ret v, σ)
def Tn1.fin2 {β : Type} (P Q : β → En → Prop) (t : Tn1 β) (z : R (Fl × En)) : Prop := match t with
  | .go b => ∃ σ, z = .ok (.nx, σ) ∧ P b σ
  | .out b => ∃ σ, z = .ok (.nx, σ) ∧ Q b σ
  | .ret v => ∃ σ, z = .ok (.ret v, σ)
/-- a for loop: P says what the slots hold with so many turns left, Q behind a break -/
theorem for_idx {α β : Type} {S : Sc} {T : Tg} {B : Sms} {ds : List D} {f : α → D} (P : Nat → β → En → Prop) (Q : β → En → Prop) (step : β → α → Tn1 β) : ∀ {l : List α} {σ : En} {z : R (Fl × En)} {b : β}, forD (fb S T B) (ds, none) (l.map f) σ = z → P l.length b σ →
    (∀ r b a σ, a ∈ l → P (r + 1) b σ → (step b a).is2 (P r) Q (fb S T B (f a) σ)) → (loopR step b l).fin2 (P 0) Q z
  | [], σ, z, b, hz, hP, _ => ⟨σ, by rw [← hz]; simp, hP⟩
  | a :: l, σ, z, b, hz, hP, h => by
    have e := h l.length b a σ (List.mem_cons_self ..) hP
    rw [List.map_cons, for_cons] at hz
    show (match step b a with
      | .go b' => loopR step b' l
      | .out b' => .out b'
      | .ret v => .ret v : Tn1 β).fin2 (P 0) Q z
    cases hs : step b a with
    | go b' =>
      rw [hs] at e
      obtain ⟨σ1, e1, h1⟩ := e
      rw [e1, rb_ok, lp_nx] at hz
      exact for_idx P Q step hz h1 fun r b a σ ha => h r b a σ (List.mem_cons_of_mem _ ha)
    | out b' =>
      rw [hs] at e
      obtain ⟨σ1, e1, h1⟩ := e
      rw [e1, rb_ok, lp_brk] at hz
      exact ⟨σ1, hz.symm, h1⟩
    | ret v =>
      rw [hs] at e
      obtain ⟨σ1, e1⟩ := e
      rw [e1, rb_ok, lp_ret] at hz
      exact ⟨σ1, hz.symm⟩
/-- Euclid's loop -/
theorem euclid {c : En → R (Bool × En)} {b : En → R (Fl × En)} {z : R (Fl × En)} {st : Int → Int → En} (hc : ∀ x y : Int, 0 ≤ x → 0 ≤ y → c (st x y) = .ok (decide (0 < y), st x y)) (hb : ∀ x y : Int, 0 ≤ x → 0 < y → b (st x y) = .ok (.nx, st y (x % y))) {x y : Int} (hx : 0 ≤ x) (hy : 0 ≤ y) (hz : whileD c b (st x y) = z) :
    z = .ok (.nx, st ((Nat.gcd x.natAbs y.natAbs : Nat) : Int) 0) := by
  obtain ⟨⟨x', y'⟩, σ', σ0, rfl, ⟨e1, h1, h2, h3⟩, ⟨e2, h4, h5, h6⟩, e3⟩ := while_rel (β := Int × Int) (x := (x, y)) (fun p σ => σ = st p.1 p.2 ∧ 0 ≤ p.1 ∧ 0 ≤ p.2 ∧ Nat.gcd p.1.natAbs p.2.natAbs = Nat.gcd x.natAbs y.natAbs) (fun p => p.2.toNat) hz ⟨rfl, hx, hy, rfl⟩ rfl (fun p σ ⟨e, h1, h2, h3⟩ => by
    obtain ⟨p, q⟩ := p
    simp only at e h1 h2 h3
    subst e
    by_cases hq : 0 < q
    · refine .inr ⟨_, _, (q, p % q), .nx, ?_, hb p q h1 hq, .inl rfl, ⟨rfl, by simp only; omega, by simp only; exact Int.emod_nonneg _ (by omega), ?_⟩, ?_⟩
      · rw [hc p q h1 h2, decide_eq_true hq]
      · simp only
        rw [← h3]
        obtain ⟨p', rfl⟩ := Int.eq_ofNat_of_zero_le h1
        obtain ⟨q', rfl⟩ := Int.eq_ofNat_of_zero_le h2
        rw [← Int.natCast_emod, Int.natAbs_natCast, Int.natAbs_natCast, Int.natAbs_natCast, Nat.gcd_comm q', ← Nat.gcd_rec, Nat.gcd_comm]
      · simp only
        have := Int.emod_lt_of_pos p hq
        have := Int.emod_nonneg p (b := q) (by omega)
        omega
    · exact .inl ⟨_, by rw [hc p q h1 h2, decide_eq_false hq], rfl, h1, h2, h3⟩)
  simp only at e1 e2 h1 h2 h3 h4 h5 h6 e3
  rw [e2, hc x' y' h4 h5] at e3
  have hq : ¬ 0 < y' := by
    intro h
    rw [decide_eq_true h] at e3
    cases e3
  have : y' = 0 := by omega
  subst this
  simp only [Int.natAbs_zero, Nat.gcd_zero_right] at h3
  rw [e1, ← h3]
  congr 3
  omega
end Mp

end

section
namespace Mp
open PySem PySem.Spec PyProof.Rows L2

/-! ### pairs that are not reduced -/
structure U where
  a : Int
  b : Int
  pos : 0 < b
def ud (u : U) : D := .tuple [.int u.a, .int u.b]
def U.val (u : U) : Rat := Rat.divInt u.a u.b
theorem den_pos (q : Rat) : (0 : Int) < (q.den : Nat) := by
  have := q.den_nz
  omega
def U.of (q : Rat) : U := ⟨q.num, (q.den : Nat), den_pos q⟩
theorem fr_of (q : Rat) : fr q = ud (U.of q) := rfl
@[simp] theorem val_of (q : Rat) : (U.of q).val = q := Rat.num_divInt_den q
@[simp] theorem ixR_ud0 (u : U) : ixR (ud u) (.int 0) = some (.int u.a) := rfl
@[simp] theorem ixR_ud1 (u : U) : ixR (ud u) (.int 1) = some (.int u.b) := rfl
@[simp] theorem ixR_fr0 (q : Rat) : ixR (fr q) (.int 0) = some (.int q.num) := rfl
@[simp] theorem ixR_fr1 (q : Rat) : ixR (fr q) (.int 1) = some (.int (q.den : Nat)) := rfl
@[simp] theorem ixR_cn0 (c : Rat × Rat) : ixR (cn c) (.int 0) = some (fr c.1) := rfl
@[simp] theorem ixR_cn1 (c : Rat × Rat) : ixR (cn c) (.int 1) = some (fr c.2) := rfl
@[simp] theorem is_ud_n (u : U) : cmpD .is (ud u) .none = some false := rfl
@[simp] theorem isn_ud_n (u : U) : cmpD .isn (ud u) .none = some true := rfl
def lu (u : U) : Nat := lg u.a + lg u.b
theorem lu_of (q : Rat) : lu (U.of q) = lq q := rfl
theorem lq_val (u : U) : lq u.val ≤ lu u := lq_divInt (by have := u.pos; omega)
def U.add (u v : U) : U := ⟨u.a * v.b + v.a * u.b, u.b * v.b, Int.mul_pos u.pos v.pos⟩
def U.sub (u v : U) : U := ⟨u.a * v.b - v.a * u.b, u.b * v.b, Int.mul_pos u.pos v.pos⟩
def U.mul (u v : U) : U := ⟨u.a * v.a, u.b * v.b, Int.mul_pos u.pos v.pos⟩
def U.per (u v : U) : U := if h : 0 < v.a then ⟨u.a * v.b, u.b * v.a, Int.mul_pos u.pos h⟩ else if h : v.a < 0 then ⟨0 - u.a * v.b, 0 - u.b * v.a, by have := Int.mul_neg_of_pos_of_neg u.pos h; omega⟩ else u
@[simp] theorem val_add (u v : U) : (u.add v).val = u.val + v.val := (Rat.divInt_add_divInt _ _ (by have := u.pos; omega) (by have := v.pos; omega)).symm
@[simp] theorem val_sub (u v : U) : (u.sub v).val = u.val - v.val := (Rat.divInt_sub_divInt _ _ (by have := u.pos; omega) (by have := v.pos; omega)).symm
@[simp] theorem val_mul (u v : U) : (u.mul v).val = u.val * v.val := (Rat.divInt_mul_divInt _ _).symm
theorem val_zero {u : U} : u.val = 0 ↔ u.a = 0 := by
  unfold U.val
  have hb : (u.b : Int) ≠ 0 := by have := u.pos; omega
  constructor
  · intro h
    rw [← Rat.zero_divInt u.b, Rat.divInt_eq_divInt_iff hb hb] at h
    have h : u.a * u.b = 0 := by omega
    rcases Int.mul_eq_zero.mp h with h | h
    · exact h
    · exact absurd h hb
  · intro h
    rw [h, Rat.zero_divInt]
theorem val_nonneg {u : U} : 0 ≤ u.val ↔ 0 ≤ u.a := Rat.divInt_nonneg_iff_of_pos_right u.pos
@[simp] theorem val_per (u v : U) (h : v.val ≠ 0) : (u.per v).val = u.val / v.val := by
  have e : Rat.divInt (u.a * v.b) (u.b * v.a) = u.val / v.val := by
    unfold U.val
    rw [Rat.div_def, Rat.inv_divInt, Rat.divInt_mul_divInt]
  unfold U.per
  split
  · exact e
  · split
    · rw [← e]
      show Rat.divInt (0 - u.a * v.b) (0 - u.b * v.a) = _
      rw [Int.zero_sub, Int.zero_sub, Rat.neg_divInt_neg]
    · exfalso
      apply h
      unfold U.val
      rw [show v.a = 0 by omega, Rat.zero_divInt]
theorem lu_add (u v : U) : lu (u.add v) ≤ 2 * lu u + 2 * lu v + 1 := by
  unfold lu U.add
  grind [lg_mul, lg_add]
theorem lu_sub (u v : U) : lu (u.sub v) ≤ 2 * lu u + 2 * lu v + 1 := by
  unfold lu U.sub
  grind [lg_mul, lg_sub]
theorem lu_mul (u v : U) : lu (u.mul v) ≤ lu u + lu v := by
  unfold lu U.mul
  grind [lg_mul]
theorem lu_per (u v : U) : lu (u.per v) ≤ lu u + lu v + 2 := by
  unfold U.per
  split
  · unfold lu
    grind [lg_mul]
  · split
    · show lg (0 - u.a * v.b) + lg (0 - u.b * v.a) ≤ _
      rw [Int.zero_sub, Int.zero_sub]
      have h1 := lg_neg (u.a * v.b)
      have h2 := lg_neg (u.b * v.a)
      have h3 := lg_mul u.a v.b
      have h4 := lg_mul u.b v.a
      unfold lu
      omega
    · omega
theorem val_sgn (u : U) : (0 < u.a ↔ 0 < u.val) ∧ (u.a < 0 ↔ u.val < 0) := by
  have h1 := @val_nonneg u
  have h2 := @val_zero u
  constructor <;> constructor <;> intro h
  · have a := h1.mpr (by omega)
    have b : u.val ≠ 0 := fun z => by have := h2.mp z; omega
    grind
  · have a := h1.mp (by grind)
    have b : u.a ≠ 0 := fun z => by have := h2.mpr z; grind
    omega
  · have : ¬ 0 ≤ u.val := fun z => by have := h1.mp z; omega
    grind
  · have : ¬ 0 ≤ u.a := fun z => by have := h1.mpr z; grind
    omega
@[simp] theorem ua_pos {u : U} : 0 < u.a ↔ 0 < u.val := (val_sgn u).1
@[simp] theorem ua_neg {u : U} : u.a < 0 ↔ u.val < 0 := (val_sgn u).2
@[simp] theorem ua_nonneg {u : U} : 0 ≤ u.a ↔ 0 ≤ u.val := by
  have := @ua_neg u
  grind
@[simp] theorem ua_nonpos {u : U} : u.a ≤ 0 ↔ u.val ≤ 0 := by
  have := @ua_pos u
  grind
end Mp

end

section
namespace Mp
open PySem PySem.Spec PyProof.Rows L2

/-! ### fractions over a known number -/
def Bd (d B : Nat) (q : Rat) : Prop := ∃ n : Int, q = Rat.divInt n d ∧ n.natAbs ≤ B
theorem Bd.mono {d B B' : Nat} {q : Rat} (h : Bd d B q) (hB : B ≤ B') : Bd d B' q := by
  obtain ⟨n, e, h⟩ := h
  exact ⟨n, e, Nat.le_trans h hB⟩
theorem Bd.add {d B B' : Nat} {p q : Rat} (h : Bd d B p) (h' : Bd d B' q) (hd : 0 < d) : Bd d (B + B') (p + q) := by
  obtain ⟨n, rfl, h⟩ := h
  obtain ⟨m, rfl, h'⟩ := h'
  refine ⟨n + m, ?_, by omega⟩
  rw [Rat.divInt_add_divInt _ _ (by omega) (by omega), ← Int.add_mul]
  exact Rat.divInt_mul_right (by omega)
theorem Bd.neg {d B : Nat} {q : Rat} (h : Bd d B q) : Bd d B (-q) := by
  obtain ⟨n, rfl, h⟩ := h
  exact ⟨-n, by rw [Rat.neg_divInt], by omega⟩
theorem Bd.sub {d B B' : Nat} {p q : Rat} (h : Bd d B p) (h' : Bd d B' q) (hd : 0 < d) : Bd d (B + B') (p - q) := by
  rw [Rat.sub_eq_add_neg]
  exact h.add h'.neg hd
theorem Bd.mul {d B d' B' : Nat} {p q : Rat} (h : Bd d B p) (h' : Bd d' B' q) : Bd (d * d') (B * B') (p * q) := by
  obtain ⟨n, rfl, h⟩ := h
  obtain ⟨m, rfl, h'⟩ := h'
  refine ⟨n * m, ?_, by rw [Int.natAbs_mul]; exact Nat.mul_le_mul h h'⟩
  rw [Rat.divInt_mul_divInt, Int.natCast_mul]
theorem Bd.scale {d B : Nat} {q : Rat} (h : Bd d B q) {c : Nat} (hc : 0 < c) : Bd (d * c) (B * c) q := by
  obtain ⟨n, rfl, h⟩ := h
  refine ⟨n * c, ?_, by rw [Int.natAbs_mul, Int.natAbs_natCast]; exact Nat.mul_le_mul_right _ h⟩
  rw [Int.natCast_mul]
  exact (Rat.divInt_mul_right (by omega)).symm
theorem lg_nat {i : Int} {B k : Nat} (h : i.natAbs ≤ B) (hk : B < 2 ^ k) : lg i ≤ k := by
  apply lg_le
  unfold Sz
  omega
theorem Bd.lq {d B k m : Nat} {q : Rat} (h : Bd d B q) (hd : 0 < d) (hk : B < 2 ^ k) (hm : d < 2 ^ m) : lq q ≤ k + m := by
  obtain ⟨n, rfl, h⟩ := h
  have h1 := lq_divInt (t := n) (b := (d : Nat)) (by omega)
  have h2 := lg_nat h hk
  have h3 := lg_nat (i := (d : Nat)) (B := d) (k := m) (by simp) hm
  omega
theorem divInt_pos {a b : Int} (ha : 0 < a) (hb : 0 < b) : 0 < Rat.divInt a b := ((val_sgn ⟨a, b, hb⟩).1).mp ha
theorem divInt_neg {a b : Int} (ha : a < 0) (hb : 0 < b) : Rat.divInt a b < 0 := ((val_sgn ⟨a, b, hb⟩).2).mp ha
/-- a / b with b a divisor of d -/
theorem Bd.of {a b : Int} {d A : Nat} (hb : 0 < b) (hd : b ∣ (d : Nat)) (h : a.natAbs ≤ A) (d0 : 0 < d) : Bd d (A * d) (Rat.divInt a b) := by
  obtain ⟨c, e⟩ := hd
  have hc : 0 < c := by
    rcases Int.lt_trichotomy c 0 with z | z | z
    · have := Int.mul_neg_of_pos_of_neg hb z
      omega
    · subst z
      simp at e
      omega
    · exact z
  refine ⟨a * c, ?_, ?_⟩
  · rw [e]
    exact (Rat.divInt_mul_right (by omega)).symm
  · rw [Int.natAbs_mul]
    refine Nat.mul_le_mul h ?_
    have : c ≤ (d : Nat) := by
      rw [e]
      have := Int.mul_le_mul_of_nonneg_right (show (1 : Int) ≤ b by omega) (show (0 : Int) ≤ c by omega)
      omega
    omega
/-! ### rows with one more at the end -/
theorem prs_snoc {α : Type} : ∀ (L : List α) (z x : α), L.getLast? = some z → prs (L ++ [x]) = prs L ++ [(z, x)]
  | [], z, x, h => by cases h
  | [a], z, x, h => by
    cases h
    rfl
  | a :: b :: l, z, x, h => by
    have := prs_snoc (b :: l) z x (by simpa using h)
    simp only [List.cons_append, prs_cons] at this ⊢
    rw [this]
theorem slopes_snoc {L : List (Rat × Rat)} {z x : Rat × Rat} (h : L.getLast? = some z) : slopes (L ++ [x]) = slopes L ++ [slope (z, x)] := by
  unfold slopes
  rw [prs_snoc L z x h, List.map_append]
  rfl
theorem slopes_nil {L : List (Rat × Rat)} (h : slopes L = []) : L.tail = [] := by
  match L with
  | [] => rfl
  | [_] => rfl
  | a :: b :: l => simp [slopes] at h
end Mp

end

section
namespace Mp
open PySem PySem.Spec PyProof.Rows L2

/-! ### drawn kinds -/
def ctV (C : Ck) (i j : Int) : Rat := Rat.divInt (1 + tapV C i) (1 + tapV (tapS C i) j)
def ctS (C : Ck) (i j : Int) : Ck := tapS (tapS C i) j
structure KS where
  C : Ck
  k : Rat
  q : Rat
  s : Rat
  f : List (Rat × Rat)
def kstep (x : KS) : Tn1 KS :=
  if x.q + x.s * ctV x.C 3 2 ≤ 0 then .out { x with C := ctS x.C 3 2 }
  else .go ⟨ctS (ctS x.C 3 2) 4 2, x.k + ctV x.C 3 2, x.q + x.s * ctV x.C 3 2, x.s - ctV (ctS x.C 3 2) 4 2, x.f ++ [(x.k + ctV x.C 3 2, x.q + x.s * ctV x.C 3 2)]⟩
structure KI (j : Nat) (m : Int) (x : KS) : Prop where
  ok : x.C.ok (m + 4 * j)
  hd : x.f.head? = some (0, 0)
  last : x.f.getLast? = some (x.k, x.q)
  pos : ∀ c ∈ x.f.tail, 0 < c.2
  inc : ∀ p ∈ prs x.f, p.1.1 < p.2.1
  dec : ∀ p ∈ prs (slopes x.f), p.2 < p.1
  sl : ∀ z ∈ (slopes x.f).getLast?, x.s < z
  one : x.f.tail = [] → 0 < x.s
  kb : Bd 2 (6 * j) x.k
  qb : Bd 12 (1440 * j) x.q
  sb : Bd 6 (24 * (j + 1)) x.s
  sz : ∀ c ∈ x.f, lc c ≤ 40
  len : x.f.length ≤ j + 1
theorem rng_map (j : Int) : rngD 0 j = (List.range j.toNat).map fun k => .int (k : Nat) := by
  unfold rngD
  simp
def Tn1.get {β : Type} (d : β) : Tn1 β → β
  | .go b => b
  | .out b => b
  | .ret _ => d
def kS0 (C : Ck) : KS := ⟨tapS (ctS C 4 3) 8, 0, 0, ctV C 4 3, [(0, 0)]⟩
def kN (C : Ck) : Int := ([1, 2, 1, 2, 3, 4, 6, 10] : List Int).getD (tapV (ctS C 4 3) 8).toNat 0
def kEnd (C : Ck) : KS := (loopR (fun x (_ : Nat) => kstep x) (kS0 C) (List.range (kN C).toNat)).get (kS0 C)
theorem kN_in (C : Ck) : 1 ≤ kN C ∧ kN C ≤ 10 := by
  have h1 := tapV_lo (ctS C 4 3) (t := 8) (by decide)
  have h2 := tapV_hi (ctS C 4 3) (t := 8) (by decide)
  unfold kN
  generalize (tapV (ctS C 4 3) 8) = v at h1 h2
  obtain ⟨k, rfl⟩ := Int.eq_ofNat_of_zero_le h1
  have : k < 8 := by omega
  rcases k with _ | _ | _ | _ | _ | _ | _ | _ | k <;> first | decide | omega
theorem ctV_pos (C : Ck) {i j : Int} (hi : 0 < i) (hj : 0 < j) : 0 < ctV C i j := by
  have := tapV_lo C hi
  have := tapV_lo (tapS C i) hj
  exact divInt_pos (by omega) (by omega)
theorem ctV_bd (C : Ck) {i j : Int} {d A : Nat} (hi : 0 < i) (hj : 0 < j) (hA : i ≤ A) (hd : ∀ b : Int, 0 < b → b ≤ j → b ∣ (d : Nat)) (d0 : 0 < d) : Bd d (A * d) (ctV C i j) := by
  have h1 := tapV_lo C hi
  have h2 := tapV_lo (tapS C i) hj
  have h3 := tapV_hi C hi
  have h4 := tapV_hi (tapS C i) hj
  exact Bd.of (by omega) (hd _ (by omega) (by omega)) (by omega) d0
theorem ctS_ok {C : Ck} {i j k : Int} (h : C.ok k) (hi : 0 < i) (hj : 0 < j) : (ctS C i j).ok (k + 2) := by
  have := (h.tap hi).tap hj
  exact this.mono (by omega)
theorem dvd_small {b : Int} (d : Nat) (h : b = 1 ∨ b = 2 ∧ d % 2 = 0) : b ∣ (d : Nat) := by
  rcases h with rfl | ⟨rfl, h⟩ <;> omega
theorem tail_snoc {α : Type} {L : List α} (h : L ≠ []) (x : α) : (L ++ [x]).tail = L.tail ++ [x] := by
  cases L with
  | nil => exact absurd rfl h
  | cons a l => rfl
theorem KI.ne {j : Nat} {m : Int} {x : KS} (h : KI j m x) : x.f ≠ [] := by
  have := h.hd
  intro z
  rw [z] at this
  cases this
theorem ctV_sz (C : Ck) {i j : Int} (hi : 0 < i) (hj : 0 < j) (hi2 : i ≤ 15) (hj2 : j ≤ 15) : lq (ctV C i j) ≤ 8 := by
  have h1 := tapV_lo C hi
  have h2 := tapV_lo (tapS C i) hj
  have h3 := tapV_hi C hi
  have h4 := tapV_hi (tapS C i) hj
  have l1 := lg_nat (i := 1 + tapV C i) (B := 15) (k := 4) (by omega) (by decide)
  have l2 := lg_nat (i := 1 + tapV (tapS C i) j) (B := 15) (k := 4) (by omega) (by decide)
  have h := lq_divInt (t := 1 + tapV C i) (b := 1 + tapV (tapS C i) j) (by omega)
  unfold ctV
  omega
theorem kS0_ok {C : Ck} {m : Int} (h : C.ok m) : KI 0 (m + 3) (kS0 C) where
  ok := ((ctS_ok h (by decide) (by decide)).tap (t := 8) (by decide)).mono (by omega)
  hd := rfl
  last := rfl
  pos := by simp [kS0]
  inc := by simp [kS0]
  dec := by simp [kS0, slopes]
  sl := by simp [kS0, slopes]
  one := fun _ => ctV_pos C (by decide) (by decide)
  kb := ⟨0, rfl, by decide⟩
  qb := ⟨0, rfl, by decide⟩
  sb := ctV_bd C (A := 4) (by decide) (by decide) (by decide) (fun b b0 b1 => by
    have : b = 1 ∨ b = 2 ∨ b = 3 := by omega
    rcases this with rfl | rfl | rfl <;> decide) (by decide)
  sz := by simp [kS0]; decide
  len := by simp [kS0]
theorem KI.w {x : KS} : 0 < ctV x.C 3 2 := ctV_pos _ (by decide) (by decide)
theorem KI.go {j : Nat} {m : Int} {x : KS} (h : KI j m x) (hj : j < 10) (hm : ¬ x.q + x.s * ctV x.C 3 2 ≤ 0) :
    KI (j + 1) m ⟨ctS (ctS x.C 3 2) 4 2, x.k + ctV x.C 3 2, x.q + x.s * ctV x.C 3 2, x.s - ctV (ctS x.C 3 2) 4 2, x.f ++ [(x.k + ctV x.C 3 2, x.q + x.s * ctV x.C 3 2)]⟩ := by
  have w0 : 0 < ctV x.C 3 2 := KI.w
  have d0 : 0 < ctV (ctS x.C 3 2) 4 2 := ctV_pos _ (by decide) (by decide)
  have two : ∀ (d : Nat), d % 2 = 0 → ∀ b : Int, 0 < b → b ≤ 2 → b ∣ (d : Nat) := fun d hd b h1 h2 => dvd_small d (by omega)
  have wb : Bd 2 6 (ctV x.C 3 2) := ctV_bd _ (A := 3) (by decide) (by decide) (by decide) (two 2 rfl) (by decide)
  have db : Bd 6 24 (ctV (ctS x.C 3 2) 4 2) := ctV_bd _ (A := 4) (by decide) (by decide) (by decide) (two 6 rfl) (by decide)
  have kb := (h.kb.add wb (by decide)).mono (show 6 * j + 6 ≤ 6 * (j + 1) by omega)
  have qb : Bd 12 (1440 * (j + 1)) (x.q + x.s * ctV x.C 3 2) := (h.qb.add ((h.sb.mul wb).mono (show 24 * (j + 1) * 6 ≤ 1440 by omega)) (by decide)).mono (by omega)
  have sb := (h.sb.sub db (by decide)).mono (show 24 * (j + 1) + 24 ≤ 24 * (j + 1 + 1) by omega)
  have e : slope ((x.k, x.q), (x.k + ctV x.C 3 2, x.q + x.s * ctV x.C 3 2)) = x.s := by
    unfold slope
    simp only
    grind
  have es := slopes_snoc (x := (x.k + ctV x.C 3 2, x.q + x.s * ctV x.C 3 2)) h.last
  rw [e] at es
  refine ⟨?_, ?_, ?_, ?_, ?_, ?_, ?_, ?_, kb, qb, sb, ?_, ?_⟩
  · exact (ctS_ok (ctS_ok h.ok (by decide) (by decide)) (by decide) (by decide)).mono (by omega)
  · have := h.hd
    cases hf : x.f with
    | nil => exact absurd hf h.ne
    | cons c l => rw [hf] at this; exact this
  · simp
  · intro c hc
    rw [tail_snoc h.ne] at hc
    rcases List.mem_append.mp hc with hc | hc
    · exact h.pos c hc
    · rw [List.mem_singleton.mp hc]
      grind
  · intro p hp
    rw [prs_snoc _ _ _ h.last] at hp
    rcases List.mem_append.mp hp with hp | hp
    · exact h.inc p hp
    · rw [List.mem_singleton.mp hp]
      grind
  · intro p hp
    simp only at hp
    rw [es] at hp
    cases hl : (slopes x.f).getLast? with
    | none =>
      rw [List.getLast?_eq_none_iff.mp hl] at hp
      simp at hp
    | some z =>
      rw [prs_snoc _ _ _ hl] at hp
      rcases List.mem_append.mp hp with hp | hp
      · exact h.dec p hp
      · rw [List.mem_singleton.mp hp]
        exact h.sl z hl
  · intro z hz
    simp only at hz ⊢
    rw [es] at hz
    simp at hz
    subst hz
    grind
  · intro z
    simp only at z
    rw [tail_snoc h.ne] at z
    simp at z
  · intro c hc
    rcases List.mem_append.mp hc with hc | hc
    · exact h.sz c hc
    · rw [List.mem_singleton.mp hc]
      have := kb.lq (k := 6) (m := 2) (by decide) (by omega) (by decide)
      have := qb.lq (k := 14) (m := 4) (by decide) (by omega) (by decide)
      unfold lc
      simp only
      omega
  · simp
    have := h.len
    omega
theorem KI.first {j : Nat} {m : Int} {x : KS} (h : KI j m x) (hf : x.f.tail = []) : ¬ x.q + x.s * ctV x.C 3 2 ≤ 0 := by
  have h1 := h.one hf
  have h2 := h.hd
  have h3 := h.last
  have w : 0 < ctV x.C 3 2 := KI.w
  have q0 : x.q = 0 := by
    match hx : x.f with
    | [] => rw [hx] at h2; cases h2
    | [c] =>
      rw [hx] at h2 h3
      cases h2
      simp at h3
      exact h3.2.symm
    | a :: b :: l => rw [hx] at hf; cases hf
  have := Rat.mul_pos h1 w
  grind
/-- the last slope of a kind -/
def kfin (x : KS) : Rat := if 0 ≤ x.s then Rat.divInt (0 - 1 - tapV x.C 3) (1 + tapV (tapS x.C 3) 2) else x.s
def kfinC (x : KS) : Ck := if 0 ≤ x.s then tapS (tapS x.C 3) 2 else x.C
def kout (x : KS) : List (Rat × Rat) := x.f ++ [(x.k + x.q / (0 - kfin x), 0)]
theorem kfin_neg (x : KS) : kfin x < 0 := by
  unfold kfin
  split
  · have := tapV_lo x.C (t := 3) (by decide)
    have := tapV_lo (tapS x.C 3) (t := 2) (by decide)
    exact divInt_neg (by omega) (by omega)
  · grind
theorem kfin_sz {j : Nat} {m : Int} {x : KS} (h : KI j m x) (hj : j ≤ 10) : lq (kfin x) ≤ 12 := by
  unfold kfin
  split
  · have := tapV_lo x.C (t := 3) (by decide)
    have := tapV_hi x.C (t := 3) (by decide)
    have := tapV_lo (tapS x.C 3) (t := 2) (by decide)
    have := tapV_hi (tapS x.C 3) (t := 2) (by decide)
    have h1 := lq_divInt (t := 0 - 1 - tapV x.C 3) (b := 1 + tapV (tapS x.C 3) 2) (by omega)
    have h2 := lg_nat (i := 0 - 1 - tapV x.C 3) (B := 3) (k := 2) (by omega) (by decide)
    have h3 := lg_nat (i := 1 + tapV (tapS x.C 3) 2) (B := 2) (k := 2) (by omega) (by decide)
    omega
  · have := h.sb.lq (k := 9) (m := 3) (by decide) (by omega) (by decide)
    omega
theorem KI.ksz {j : Nat} {m : Int} {x : KS} (h : KI j m x) (hj : j ≤ 10) : lq x.k ≤ 8 ∧ lq x.q ≤ 18 ∧ lq x.s ≤ 12 := by
  have h1 := h.kb.lq (k := 6) (m := 2) (by decide) (by omega) (by decide)
  have h2 := h.qb.lq (k := 14) (m := 4) (by decide) (by omega) (by decide)
  have h3 := h.sb.lq (k := 9) (m := 3) (by decide) (by omega) (by decide)
  exact ⟨h1, h2, h3⟩
theorem kout_ok {j : Nat} {m : Int} {x : KS} (h : KI j m x) (hj : j ≤ 10) (hf : x.f.tail ≠ []) : VK (kout x) ∧ ∀ c ∈ kout x, lc c ≤ 90 := by
  have s0 := kfin_neg x
  have ss := kfin_sz h hj
  have ks := h.ksz hj
  have q0 : 0 < x.q := by
    apply h.pos (x.k, x.q)
    have h3 := h.last
    match hx : x.f with
    | [] => rw [hx] at hf; exact absurd rfl hf
    | [c] => rw [hx] at hf; exact absurd rfl hf
    | a :: b :: l =>
      rw [hx] at h3
      rw [List.getLast?_cons_cons] at h3
      exact List.mem_of_getLast? h3
  have d0 : 0 < x.q / (0 - kfin x) := by
    rw [Rat.div_def]
    exact Rat.mul_pos q0 (Rat.inv_pos.mpr (by grind))
  have e : slope ((x.k, x.q), (x.k + x.q / (0 - kfin x), 0)) = kfin x := by
    unfold slope
    simp only
    grind
  have es := slopes_snoc (x := (x.k + x.q / (0 - kfin x), (0 : Rat))) h.last
  rw [e] at es
  have sl : ∀ z ∈ (slopes x.f).getLast?, kfin x < z := fun z hz => by
    have := h.sl z hz
    unfold kfin at s0 ⊢
    split <;> grind
  have fl : 2 ≤ x.f.length := by
    match hx : x.f with
    | [] => rw [hx] at hf; exact absurd rfl hf
    | [c] => rw [hx] at hf; exact absurd rfl hf
    | a :: b :: l => simp
  refine ⟨⟨?_, ?_, ?_, ?_, ?_, ?_, ?_⟩, ?_⟩
  · unfold kout; simp; omega
  · unfold kout; simp; have := h.len; omega
  · have := h.hd
    unfold kout
    cases hf : x.f with
    | nil => exact absurd hf h.ne
    | cons c l => rw [hf] at this; exact this
  · unfold kout; simp
  · intro c hc
    unfold kout at hc
    rw [tail_snoc h.ne] at hc
    simp at hc
    exact h.pos c hc
  · intro p hp
    unfold kout at hp
    rw [prs_snoc _ _ _ h.last] at hp
    rcases List.mem_append.mp hp with hp | hp
    · exact h.inc p hp
    · rw [List.mem_singleton.mp hp]
      grind
  · intro p hp
    unfold kout at hp
    rw [es] at hp
    cases hl : (slopes x.f).getLast? with
    | none =>
      rw [List.getLast?_eq_none_iff.mp hl] at hp
      simp at hp
    | some z =>
      rw [prs_snoc _ _ _ hl] at hp
      rcases List.mem_append.mp hp with hp | hp
      · exact h.dec p hp
      · rw [List.mem_singleton.mp hp]
        exact sl z hl
  · intro c hc
    unfold kout at hc
    rcases List.mem_append.mp hc with hc | hc
    · have := h.sz c hc
      omega
    · rw [List.mem_singleton.mp hc]
      have e : 0 - kfin x = -kfin x := by grind
      have sn : lq (-kfin x) ≤ 12 := by
        unfold lq at ss ⊢
        rw [Rat.neg_num, Rat.neg_den]
        have := lg_neg (kfin x).num
        omega
      have h1 := lq_div (a := x.q) (b := -kfin x) (by grind)
      have h2 := lq_add x.k (x.q / -kfin x)
      have z : lq 0 = 1 := by decide
      unfold lc
      simp only
      rw [e, z]
      omega
end Mp

end

section
namespace Mp
open PySem PySem.Spec PyProof.Rows L2

theorem rng1R_nat {i : Int} {m : Nat} (h : i = (m : Nat)) (hm : m ≤ 4096) (σ : En) : rng1R (.int i) σ = .ok (((List.range m).map fun k => .int (k : Nat), none), σ) := by
  subst h
  rw [rng1R_int, rng_map, show small62 (m : Nat) = true from decide_eq_true (by omega), need_true]
  rfl
theorem loopR_map {α β γ : Type} (step : β → γ → Tn1 β) (g : α → γ) : ∀ (l : List α) (b : β), loopR step b (l.map g) = loopR (fun b a => step b (g a)) b l
  | [], _ => rfl
  | a :: l, b => by
    show (match step b (g a) with
      | .go b' => loopR step b' (l.map g)
      | .out b' => .out b'
      | .ret v => .ret v : Tn1 β) = (match step b (g a) with
      | .go b' => loopR (fun b a => step b (g a)) b' l
      | .out b' => .out b'
      | .ret v => .ret v : Tn1 β)
    cases step b (g a) with
    | go b' => exact loopR_map step g l b'
    | _ => rfl
theorem range_getD {α : Type} (l : List α) (d : α) : (List.range l.length).map (fun k => l.getD k d) = l := by
  apply List.ext_getElem
  · simp
  · intro i h1 h2
    simp at h1
    simp [List.getD_eq_getElem?_getD, List.getElem?_eq_getElem h1]
theorem loopR_range {α β : Type} (step : β → α → Tn1 β) (l : List α) (d : α) (b : β) : loopR (fun b k => step b (l.getD k d)) b (List.range l.length) = loopR step b l := by
  rw [← loopR_map step (fun k => l.getD k d), range_getD]
/-- a loop that goes on to the end -/
theorem loopR_fold {α β : Type} (f : β → α → β) : ∀ (l : List α) (b : β), loopR (fun b a => .go (f b a)) b l = .go (l.foldl f b)
  | [], _ => rfl
  | a :: l, b => loopR_fold f l (f b a)
theorem prs_get {α : Type} : ∀ (L : List α) (k : Nat) (p : α × α), (prs L)[k]? = some p → L[k]? = some p.1 ∧ L[k + 1]? = some p.2
  | [], _, _, h => by simp at h
  | [_], _, _, h => by simp at h
  | a :: b :: l, 0, p, h => by
    simp at h
    subst h
    simp
  | a :: b :: l, k + 1, p, h => by
    simp only [prs_cons, List.getElem?_cons_succ] at h
    have := prs_get (b :: l) k p h
    simpa using this
theorem ixD_cn {L : List (Rat × Rat)} {k : Nat} {c : Rat × Rat} (h : L[k]? = some c) : ixD (L.map cn) (k : Int) = some (cn c) := by
  apply ixD_nat
  rw [List.getElem?_map, h]
  rfl
/-! ### the law's own line -/
abbrev Pc := (Rat × Rat) × (Rat × Rat)
def alStep (x : Rat) (found : U) (p : Pc) : U :=
  if 0 ≤ x - p.1.1 then (U.of p.1.2).add ((((U.of p.2.2).sub (U.of p.1.2)).mul (if 0 < p.2.1 - x then (U.of x).sub (U.of p.1.1) else (U.of p.2.1).sub (U.of p.1.1))).per ((U.of p.2.1).sub (U.of p.1.1))) else found
def alongU (L : List (Rat × Rat)) (x : Rat) : U := (prs L).foldl (alStep x) (U.of (L.headD (0, 0)).2)
def alR (x : Rat) (found : Rat) (p : Pc) : Rat :=
  if 0 ≤ x - p.1.1 then p.1.2 + (p.2.2 - p.1.2) * (if 0 < p.2.1 - x then x - p.1.1 else p.2.1 - p.1.1) / (p.2.1 - p.1.1) else found
def alongR (L : List (Rat × Rat)) (x : Rat) : Rat := (prs L).foldl (alR x) (L.headD (0, 0)).2
theorem alStep_val (x : Rat) (u : U) (p : Pc) (h : p.1.1 < p.2.1) : (alStep x u p).val = alR x u.val p := by
  unfold alStep alR
  have hn : ((U.of p.2.1).sub (U.of p.1.1)).val ≠ 0 := by simp; grind
  split
  · split <;> simp only [val_add, val_per _ _ hn, val_mul, val_sub, val_of]
  · rfl
theorem along_val {L : List (Rat × Rat)} {x : Rat} (h : ∀ p ∈ prs L, p.1.1 < p.2.1) : (alongU L x).val = alongR L x := by
  have go : ∀ (l : List Pc) (u : U), (∀ p ∈ l, p.1.1 < p.2.1) → (l.foldl (alStep x) u).val = l.foldl (alR x) u.val := by
    intro l
    induction l with
    | nil => intro u _; rfl
    | cons p l ih =>
      intro u h
      rw [List.foldl_cons, List.foldl_cons, ih _ fun q hq => h q (List.mem_cons_of_mem _ hq), alStep_val x u p (h p (List.mem_cons_self ..))]
  unfold alongU alongR
  rw [go _ _ h, val_of]
theorem alStep_sz {x : Rat} {u : U} {p : Pc} {k : Nat} (hx : lq x ≤ k) (h1 : lc p.1 ≤ k) (h2 : lc p.2 ≤ k) (hu : lu u ≤ 40 * k + 40) : lu (alStep x u p) ≤ 40 * k + 40 := by
  unfold lc at h1 h2
  unfold alStep
  have a0 := lu_of x
  have a1 := lu_of p.1.1
  have a2 := lu_of p.1.2
  have a3 := lu_of p.2.1
  have a4 := lu_of p.2.2
  split
  · split
    · have b1 := lu_sub (U.of x) (U.of p.1.1)
      have b2 := lu_sub (U.of p.2.1) (U.of p.1.1)
      have b3 := lu_sub (U.of p.2.2) (U.of p.1.2)
      have b4 := lu_mul ((U.of p.2.2).sub (U.of p.1.2)) ((U.of x).sub (U.of p.1.1))
      have b5 := lu_per (((U.of p.2.2).sub (U.of p.1.2)).mul ((U.of x).sub (U.of p.1.1))) ((U.of p.2.1).sub (U.of p.1.1))
      have b6 := lu_add (U.of p.1.2) ((((U.of p.2.2).sub (U.of p.1.2)).mul ((U.of x).sub (U.of p.1.1))).per ((U.of p.2.1).sub (U.of p.1.1)))
      omega
    · have b2 := lu_sub (U.of p.2.1) (U.of p.1.1)
      have b3 := lu_sub (U.of p.2.2) (U.of p.1.2)
      have b4 := lu_mul ((U.of p.2.2).sub (U.of p.1.2)) ((U.of p.2.1).sub (U.of p.1.1))
      have b5 := lu_per (((U.of p.2.2).sub (U.of p.1.2)).mul ((U.of p.2.1).sub (U.of p.1.1))) ((U.of p.2.1).sub (U.of p.1.1))
      have b6 := lu_add (U.of p.1.2) ((((U.of p.2.2).sub (U.of p.1.2)).mul ((U.of p.2.1).sub (U.of p.1.1))).per ((U.of p.2.1).sub (U.of p.1.1)))
      omega
  · exact hu
theorem along_sz {L : List (Rat × Rat)} {x : Rat} {k : Nat} (h : ∀ c ∈ L, lc c ≤ k) (hx : lq x ≤ k) : lu (alongU L x) ≤ 40 * k + 40 := by
  have go : ∀ (l : List Pc) (u : U), (∀ p ∈ l, p ∈ prs L) → lu u ≤ 40 * k + 40 → lu (l.foldl (alStep x) u) ≤ 40 * k + 40 := by
    intro l
    induction l with
    | nil => intro u _ h; exact h
    | cons p l ih =>
      intro u hl hu
      have hp := mem_prs (hl p (List.mem_cons_self ..))
      exact ih _ (fun q hq => hl q (List.mem_cons_of_mem _ hq)) (alStep_sz hx (h _ hp.1) (h _ hp.2) hu)
  refine go _ _ (fun p h => h) ?_
  rw [lu_of]
  cases L with
  | nil =>
    have : lq 0 = 1 := by decide
    simp only [List.headD_nil]
    omega
  | cons c l =>
    have := h c (List.mem_cons_self ..)
    unfold lc at this
    simp only [List.headD_cons]
    omega
theorem along_done : ∀ (l : List (Rat × Rat)) (d : Rat × Rat) (x y : Rat), (∀ p ∈ prs (d :: l), p.1.1 < p.2.1) → x ≤ d.1 → (x = d.1 → y = d.2) → (prs (d :: l)).foldl (alR x) y = y := by
  intro l
  induction l with
  | nil => intro d x y _ _ _; rfl
  | cons e l ih =>
    intro d x y h h1 h2
    have hde : d.1 < e.1 := h (d, e) (by simp)
    rw [prs_cons, List.foldl_cons]
    have e1 : alR x y (d, e) = y := by
      unfold alR
      simp only
      split
      · have hx : x = d.1 := by grind
        have hy := h2 hx
        have z : x - d.1 = 0 := by grind
        split
        · rw [z, hy, Rat.mul_zero, Rat.div_def, Rat.zero_mul, Rat.add_zero]
        · exfalso; grind
      · rfl
    rw [e1]
    exact ih e x y (fun p hp => h p (by rw [prs_cons]; exact List.mem_cons_of_mem _ hp)) (by grind) (fun z => by exfalso; grind)
/-- the law's own line and the kind's flow are one -/
theorem along_go : ∀ (l : List (Rat × Rat)) (c : Rat × Rat) (x y : Rat), (∀ p ∈ prs (c :: l), p.1.1 < p.2.1) → c.1 ≤ x → x ≤ full (c :: l) → l ≠ [] → (prs (c :: l)).foldl (alR x) y = flowGo x c l := by
  intro l
  induction l with
  | nil => intro c x y h h1 h2 z; exact absurd rfl z
  | cons d l ih =>
    intro c x y h h1 h2 _
    have hcd : c.1 < d.1 := h (c, d) (by simp)
    rw [prs_cons, List.foldl_cons]
    have e1 : alR x y (c, d) = c.2 + (d.2 - c.2) * (if 0 < d.1 - x then x - c.1 else d.1 - c.1) / (d.1 - c.1) := by
      unfold alR
      rw [if_pos (by simp only; grind)]
    have ht : ∀ p ∈ prs (d :: l), p.1.1 < p.2.1 := fun p hp => h p (by rw [prs_cons]; exact List.mem_cons_of_mem _ hp)
    unfold flowGo
    split
    · rename_i hd
      cases l with
      | nil =>
        unfold full at h2
        simp at h2
        grind
      | cons e l => exact ih d x _ ht (by grind) (by unfold full at h2 ⊢; simpa using h2) (by simp)
    · rename_i hd
      have nz : d.1 - c.1 ≠ 0 := by grind
      have e2 : alR x y (c, d) = c.2 + (d.2 - c.2) / (d.1 - c.1) * (x - c.1) := by
        rw [e1]
        split
        · grind
        · have : x = d.1 := by grind
          subst this
          grind
      rw [along_done l d x _ ht (by grind) (fun z => by rw [e2, z]; grind), e2]
theorem along_flow {L : List (Rat × Rat)} {x : Rat} (h : ∀ p ∈ prs L, p.1.1 < p.2.1) (hn : 2 ≤ L.length) (h0 : (L.headD (0, 0)).1 ≤ x) (h1 : x ≤ full L) : alongR L x = flow L x := by
  match L, hn with
  | c :: d :: l, _ => exact along_go (d :: l) c x _ h h0 h1 (by simp)
end Mp

end

section
namespace Mp
open PySem PySem.Spec PyProof.Rows L2

/-! ### rising densities, falling slopes -/
def Cc : List (Rat × Rat) → Prop
  | a :: b :: c :: l => a.1 < b.1 ∧ slope (b, c) < slope (a, b) ∧ Cc (b :: c :: l)
  | [a, b] => a.1 < b.1
  | _ => True
theorem cc_iff : ∀ (L : List (Rat × Rat)), Cc L ↔ (∀ p ∈ prs L, p.1.1 < p.2.1) ∧ ∀ p ∈ prs (slopes L), p.2 < p.1
  | [] => by simp [Cc, slopes]
  | [a] => by simp [Cc, slopes]
  | [a, b] => by simp [Cc, slopes]
  | a :: b :: c :: l => by
    have ih := cc_iff (b :: c :: l)
    have e : slopes (a :: b :: c :: l) = slope (a, b) :: slope (b, c) :: slopes (c :: l) := by simp [slopes]
    have e2 : slopes (b :: c :: l) = slope (b, c) :: slopes (c :: l) := by simp [slopes]
    rw [e2] at ih
    unfold Cc
    rw [ih, e, prs_cons a b, prs_cons (slope (a, b)) (slope (b, c)), List.forall_mem_cons, List.forall_mem_cons]
    constructor
    · rintro ⟨h1, h2, h3, h4⟩
      exact ⟨⟨h1, h3⟩, h2, h4⟩
    · rintro ⟨⟨h1, h3⟩, h2, h4⟩
      exact ⟨h1, h2, h3, h4⟩
theorem slope_mid {a b c : Rat × Rat} (h1 : a.1 < b.1) (h2 : b.1 < c.1) (h : slope (b, c) < slope (a, b)) : slope (b, c) < slope (a, c) ∧ slope (a, c) < slope (a, b) := by
  have d1 : 0 < b.1 - a.1 := by grind
  have d2 : 0 < c.1 - b.1 := by grind
  have d3 : 0 < c.1 - a.1 := by grind
  have e1 : slope (a, b) * (b.1 - a.1) = b.2 - a.2 := by unfold slope; simp only; grind
  have e2 : slope (b, c) * (c.1 - b.1) = c.2 - b.2 := by unfold slope; simp only; grind
  have e3 : slope (a, c) * (c.1 - a.1) = c.2 - a.2 := by unfold slope; simp only; grind
  generalize slope (a, b) = s at *
  generalize slope (b, c) = t at *
  generalize slope (a, c) = u at *
  -- u (d1 + d2) = s d1 + t d2
  have e4 : u * (c.1 - a.1) = s * (b.1 - a.1) + t * (c.1 - b.1) := by grind
  have m1 := Rat.mul_lt_mul_of_pos_right h d1
  have m2 := Rat.mul_lt_mul_of_pos_right h d2
  constructor
  · apply (Rat.mul_lt_mul_right d3).mp
    rw [e4]
    grind
  · apply (Rat.mul_lt_mul_right d3).mp
    rw [e4]
    grind
theorem Cc.tail {a : Rat × Rat} : ∀ {l : List (Rat × Rat)}, Cc (a :: l) → Cc l
  | [], _ => trivial
  | [_], _ => trivial
  | _ :: _ :: _, h => h.2.2
theorem Cc.lt {a b : Rat × Rat} : ∀ {l : List (Rat × Rat)}, Cc (a :: b :: l) → a.1 < b.1
  | [], h => h
  | _ :: _, h => h.1
theorem Cc.cons {a b c : Rat × Rat} {l : List (Rat × Rat)} (h1 : a.1 < b.1) (h2 : slope (b, c) < slope (a, b)) (h : Cc (b :: c :: l)) : Cc (a :: b :: c :: l) := ⟨h1, h2, h⟩
/-- one corner between left out -/
theorem cc_erase : ∀ (i : Nat) (l : List (Rat × Rat)) (a b : Rat × Rat), Cc (a :: b :: l) → i < l.length → ∃ c l', (a :: b :: l).eraseIdx (i + 1) = a :: c :: l' ∧ Cc (a :: c :: l') ∧ slope (a, c) ≤ slope (a, b)
  | 0, [], _, _, _, h => by simp at h
  | 0, c :: l, a, b, h, _ => by
    have h1 := h.lt
    have h2 := h.tail.lt
    have h3 := slope_mid h1 h2 h.2.1
    refine ⟨c, l, rfl, ?_, by grind⟩
    cases l with
    | nil => exact show a.1 < c.1 by grind
    | cons d l =>
      have h4 : slope (c, d) < slope (b, c) := h.tail.2.1
      exact .cons (by grind) (by grind) h.tail.tail
  | i + 1, l, a, b, h, hi => by
    cases l with
    | nil => simp at hi
    | cons c l =>
      obtain ⟨d, l', e, h1, h2⟩ := cc_erase i l b c h.tail (by simpa using hi)
      refine ⟨b, d :: l', ?_, ?_, by grind⟩
      · show a :: (b :: c :: l).eraseIdx (i + 1) = _
        rw [e]
      · have := h.2.1
        exact .cons h.lt (by grind) h1
theorem prs_map {α β : Type} (g : α → β) : ∀ (L : List α), prs (L.map g) = (prs L).map fun p => (g p.1, g p.2)
  | [] => rfl
  | [_] => rfl
  | a :: b :: l => by
    have := prs_map g (b :: l)
    simp only [List.map_cons, prs_cons] at this ⊢
    rw [this]
theorem getLastD_map' {L : List (Rat × Rat)} (g : Rat × Rat → Rat × Rat) (h : L ≠ []) : (L.map g).getLastD (0, 0) = g (L.getLastD (0, 0)) := by
  rw [List.getLastD_eq_getLast?, List.getLastD_eq_getLast?, List.getLast?_map, List.getLast?_eq_some_getLast h]
  rfl
theorem VK.ne {L : List (Rat × Rat)} (h : VK L) : L ≠ [] := by
  have := h.len
  rintro rfl
  simp at this
theorem vk_scale {L : List (Rat × Rat)} (h : VK L) (x y : Rat) (hx : 0 < x) (hy : 0 < y) : VK (L.map fun c => (c.1 * x, c.2 * y)) where
  len := by rw [List.length_map]; exact h.len
  len2 := by rw [List.length_map]; exact h.len2
  hd := by
    rw [List.head?_map, h.hd]
    simp [Rat.zero_mul]
  lst := by
    rw [getLastD_map' _ h.ne]
    show (L.getLastD (0, 0)).2 * y = 0
    rw [h.lst, Rat.zero_mul]
  mid := fun c hc => by
    rw [← List.map_tail, ← List.map_dropLast] at hc
    obtain ⟨d, hd, rfl⟩ := List.mem_map.mp hc
    exact Rat.mul_pos (h.mid d hd) hy
  inc := fun p hp => by
    rw [prs_map] at hp
    obtain ⟨q, hq, rfl⟩ := List.mem_map.mp hp
    exact Rat.mul_lt_mul_of_pos_right (h.inc q hq) hx
  dec := fun p hp => by
    have e : slopes (L.map fun c => (c.1 * x, c.2 * y)) = (slopes L).map fun s => s * (y / x) := by
      unfold slopes
      rw [prs_map, List.map_map, List.map_map]
      apply List.map_congr_left
      intro p hp
      have := h.inc p hp
      unfold slope
      simp only [Function.comp]
      have d : p.2.1 - p.1.1 ≠ 0 := by grind
      have e1 : p.2.2 * y - p.1.2 * y = (p.2.2 - p.1.2) * y := by grind
      have e2 : p.2.1 * x - p.1.1 * x = (p.2.1 - p.1.1) * x := by grind
      rw [e1, e2]
      generalize p.2.2 - p.1.2 = u at *
      generalize p.2.1 - p.1.1 = v at *
      grind
    rw [e, prs_map] at hp
    obtain ⟨q, hq, rfl⟩ := List.mem_map.mp hp
    exact Rat.mul_lt_mul_of_pos_right (h.dec q hq) (by rw [Rat.div_def]; exact Rat.mul_pos hy (Rat.inv_pos.mpr hx))
theorem erase_last {α : Type} : ∀ (l : List α) (i : Nat), i + 1 < l.length → (l.eraseIdx i).getLast? = l.getLast? ∧ (l.eraseIdx i).dropLast = l.dropLast.eraseIdx i ∧ (l.eraseIdx i).length + 1 = l.length
  | [], i, h => by simp at h
  | [a], i, h => by simp at h
  | a :: b :: l, 0, h => by simp
  | a :: b :: l, i + 1, h => by
    obtain ⟨h1, h2, h3⟩ := erase_last (b :: l) i (by simpa using h)
    have e : (a :: b :: l).eraseIdx (i + 1) = a :: (b :: l).eraseIdx i := rfl
    have ne : (b :: l).eraseIdx i ≠ [] := by
      intro z
      rw [z] at h3
      simp at h3 h
      simp [h3] at h
    obtain ⟨c, m, hc⟩ : ∃ c m, (b :: l).eraseIdx i = c :: m := by
      cases hz : (b :: l).eraseIdx i with
      | nil => exact absurd hz ne
      | cons c m => exact ⟨c, m, rfl⟩
    rw [e]
    refine ⟨?_, ?_, ?_⟩
    · rw [hc] at h1 ⊢
      rw [List.getLast?_cons_cons, List.getLast?_cons_cons, h1]
    · rw [hc] at h2 ⊢
      rw [List.dropLast_cons_cons, List.dropLast_cons_cons, h2]
      rfl
    · rw [List.length_cons, h3]
      rfl
theorem vk_erase {L : List (Rat × Rat)} (h : VK L) (hn : 3 < L.length) {i : Nat} (hi : i + 2 < L.length) : VK (L.eraseIdx (i + 1)) := by
  have hc := (cc_iff L).mpr ⟨h.inc, h.dec⟩
  obtain ⟨l1, l2, l3⟩ := erase_last L (i + 1) hi
  match L, hn with
  | a :: b :: l, hn =>
    obtain ⟨c, l', e, h1, _⟩ := cc_erase i l a b hc (by simpa using hi)
    have h2 := h.len2
    obtain ⟨h3, h4⟩ := (cc_iff _).mp h1
    rw [e] at l1 l2 l3
    rw [e]
    refine ⟨by omega, by omega, h.hd, ?_, ?_, h3, h4⟩
    · have := h.lst
      rwa [List.getLastD_eq_getLast?, ← l1, ← List.getLastD_eq_getLast?] at this
    · intro d hd
      apply h.mid d
      have l4 := (erase_last (b :: l) i (by simpa using hi)).2.1
      have e2 : (b :: l).eraseIdx i = c :: l' := by
        have := congrArg List.tail e
        exact this
      rw [e2] at l4
      have hd : d ∈ (c :: l').dropLast := hd
      rw [l4] at hd
      exact List.mem_of_mem_eraseIdx hd
/-! ### second kinds -/
def kC (C : Ck) : Ck := tapS (tapS C 6) 7
def kP (C : Ck) : Rat := Rat.divInt (1 + tapV (tapS C 6) 7) 4
def kinL (C : Ck) (L : List (Rat × Rat)) : List (Rat × Rat) :=
  if tapV C 6 = 0 then L.map fun c => (c.1, c.2 * kP C)
  else if tapV C 6 = 1 then L.map fun c => (c.1 * kP C, c.2)
  else if tapV C 6 = 2 ∧ 3 < L.length then L.eraseIdx (tapV (kC C) (L.length - 2)).toNat.succ
  else if tapV C 6 = 3 then L else kout (kEnd (kC C))
def kinC (C : Ck) (L : List (Rat × Rat)) : Ck :=
  if tapV C 6 = 0 then kC C
  else if tapV C 6 = 1 then kC C
  else if tapV C 6 = 2 ∧ 3 < L.length then tapS (kC C) (L.length - 2)
  else if tapV C 6 = 3 then kC C else kfinC (kEnd (kC C))
theorem kP_pos (C : Ck) : 0 < kP C := by
  have := tapV_lo (tapS C 6) (t := 7) (by decide)
  exact divInt_pos (by omega) (by decide)
theorem kP_sz (C : Ck) : lq (kP C) ≤ 6 := by
  have h1 := tapV_lo (tapS C 6) (t := 7) (by decide)
  have h2 := tapV_hi (tapS C 6) (t := 7) (by decide)
  have l1 := lg_nat (i := 1 + tapV (tapS C 6) 7) (B := 7) (k := 3) (by omega) (by decide)
  have l2 := lg_nat (i := 4) (B := 4) (k := 3) (by omega) (by decide)
  have h := lq_divInt (t := 1 + tapV (tapS C 6) 7) (b := 4) (by omega)
  unfold kP
  omega
theorem kinL_ok {C : Ck} {L : List (Rat × Rat)} (h : VK L) (hs : ∀ c ∈ L, lc c ≤ 90) (hk : VK (kout (kEnd (kC C))) ∧ ∀ c ∈ kout (kEnd (kC C)), lc c ≤ 90) : VK (kinL C L) ∧ ∀ c ∈ kinL C L, lc c ≤ 96 := by
  have p0 := kP_pos C
  have ps := kP_sz C
  have lo := tapV_lo C (t := 6) (by decide)
  unfold kinL
  split
  · refine ⟨?_, fun c hc => ?_⟩
    · have := vk_scale h 1 (kP C) (by decide) p0
      simpa [Rat.mul_one] using this
    · obtain ⟨d, hd, rfl⟩ := List.mem_map.mp hc
      have := hs d hd
      have := lq_mul d.2 (kP C)
      unfold lc at *
      simp only at *
      omega
  · split
    · refine ⟨?_, fun c hc => ?_⟩
      · have := vk_scale h (kP C) 1 p0 (by decide)
        simpa [Rat.mul_one] using this
      · obtain ⟨d, hd, rfl⟩ := List.mem_map.mp hc
        have := hs d hd
        have := lq_mul d.1 (kP C)
        unfold lc at *
        simp only at *
        omega
    · split
      · rename_i hl
        have a1 := tapV_lo (kC C) (t := L.length - 2) (by omega)
        have a2 := tapV_hi (kC C) (t := L.length - 2) (by omega)
        exact ⟨vk_erase h hl.2 (by omega), fun c hc => by have := hs c (List.mem_of_mem_eraseIdx hc); omega⟩
      · split
        · exact ⟨h, fun c hc => by have := hs c hc; omega⟩
        · exact ⟨hk.1, fun c hc => by have := hk.2 c hc; omega⟩
end Mp

end

section
namespace Mp
open PySem PySem.Spec PyProof.Rows L2
/-- both kinds have the density, the first one's flow is less -/
def isBare (L M : List (Rat × Rat)) (x : Rat) : Bool := !decide (full L < x) && (!decide (full M < x) && decide (flow L x < flow M x))
def bareR (L M : List (Rat × Rat)) : Option Rat := ((L ++ M).map (·.1)).find? (isBare L M)
def optD : Option Rat → D
  | none => .none
  | some x => fr x
theorem flow_size {L : List (Rat × Rat)} {x : Rat} {k : Nat} (h : Ord k L) (hx : lq x ≤ k) : lq (flow L x) ≤ 40 * k + 40 := by
  have go : ∀ (l : List (Rat × Rat)) (c : Rat × Rat), Ord k (c :: l) → lq (flowGo x c l) ≤ 40 * k + 40 := by
    intro l
    induction l with
    | nil => intro c _; unfold flowGo; have : lq 0 = 1 := by decide
             omega
    | cons d l ih =>
      intro c h
      unfold flowGo
      split
      · exact ih d ⟨by simp, fun e he => h.sz e (List.mem_cons_of_mem _ he), fun p hp => h.inc p (by rw [prs_cons]; exact List.mem_cons_of_mem _ hp), by have := h.len; rw [List.length_cons] at this; omega⟩
      · have hc := h.sz c (by simp)
        have hd := h.sz d (by simp)
        have z := slope_size hc hd (h.inc (c, d) (by rw [prs_cons]; simp))
        unfold lc at hc hd
        grind [lq_add, lq_mul, lq_sub]
  cases L with
  | nil => exact absurd rfl h.ne
  | cons c l => exact go l c h
theorem full_mem {L : List (Rat × Rat)} (h : L ≠ []) : ∃ c ∈ L, full L = c.1 := by
  refine ⟨L.getLast h, List.getLast_mem h, ?_⟩
  unfold full
  rw [List.getLastD_eq_getLast?, List.getLast?_eq_some_getLast h]
  rfl
/-- by the law's own line -/
def lessAt (L M : List (Rat × Rat)) (x : Rat) : Bool := decide (0 ≤ full L - x) && (decide (0 ≤ full M - x) && decide (alongR L x - alongR M x < 0))
theorem VK.nonneg {L : List (Rat × Rat)} (h : VK L) : ∀ c ∈ L, 0 ≤ c.1 := by
  have hd := h.hd
  have inc := h.inc
  have go : ∀ (l : List (Rat × Rat)) (a : Rat × Rat), 0 ≤ a.1 → (∀ p ∈ prs (a :: l), p.1.1 < p.2.1) → ∀ c ∈ a :: l, 0 ≤ c.1 := by
    intro l
    induction l with
    | nil => intro a ha _ c hc; rw [List.mem_singleton.mp hc]; exact ha
    | cons b l ih =>
      intro a ha hp c hc
      have hab : a.1 < b.1 := hp (a, b) (by simp)
      rcases List.mem_cons.mp hc with rfl | hc
      · exact ha
      · exact ih b (by grind) (fun p hq => hp p (by rw [prs_cons]; exact List.mem_cons_of_mem _ hq)) c hc
  cases L with
  | nil => intro c hc; cases hc
  | cons a l =>
    cases hd
    exact go l _ (by decide) inc
theorem headD_vk {L : List (Rat × Rat)} (h : VK L) : L.headD (0, 0) = (0, 0) := by
  have := h.hd
  cases L with
  | nil => rfl
  | cons a l => cases this; rfl
theorem along_eq {L : List (Rat × Rat)} (h : VK L) {x : Rat} (h0 : 0 ≤ x) (h1 : x ≤ full L) : alongR L x = flow L x := by
  have := h.len
  exact along_flow h.inc (by omega) (by rw [headD_vk h]; exact h0) h1
theorem ixD_last {L : List (Rat × Rat)} (h : L ≠ []) : ∃ y, ixD (L.map cn) (-1) = some (cn (full L, y)) := ⟨_, ixD_full h⟩
theorem less_bare {L M : List (Rat × Rat)} (hL : VK L) (hM : VK M) {x : Rat} (h0 : 0 ≤ x) : lessAt L M x = isBare L M x := by
  unfold lessAt isBare
  by_cases p1 : full L < x
  · rw [decide_eq_false (show ¬ 0 ≤ full L - x by grind), decide_eq_true p1]
    rfl
  · rw [decide_eq_true (show 0 ≤ full L - x by grind), decide_eq_false p1]
    by_cases p2 : full M < x
    · rw [decide_eq_false (show ¬ 0 ≤ full M - x by grind), decide_eq_true p2]
      rfl
    · rw [decide_eq_true (show 0 ≤ full M - x by grind), decide_eq_false p2, along_eq hL h0 (by grind), along_eq hM h0 (by grind)]
      simp only [Bool.true_and, Bool.not_false]
      apply decide_eq_decide.mpr
      constructor <;> intro h <;> grind
theorem both_nonneg {L M : List (Rat × Rat)} (hL : VK L) (hM : VK M) : ∀ c ∈ L ++ M, 0 ≤ c.1 := fun c hc => by
  rcases List.mem_append.mp hc with hc | hc
  · exact hL.nonneg c hc
  · exact hM.nonneg c hc
theorem bare_none {L M : List (Rat × Rat)} (hL : VK L) (hM : VK M) (h : bareR L M = none) : ((L ++ M).filter fun c => lessAt L M c.1) = [] := by
  apply List.filter_eq_nil_iff.mpr
  intro c hc
  unfold bareR at h
  have := List.find?_eq_none.mp h c.1 (List.mem_map_of_mem hc)
  rw [less_bare hL hM (both_nonneg hL hM c hc)]
  exact this
theorem bare_some {L M : List (Rat × Rat)} {x : Rat} (hL : VK L) (hM : VK M) (h : bareR L M = some x) : ((L ++ M).filter fun c => lessAt L M c.1) ≠ [] ∧ lessAt L M x = true ∧ ∃ c ∈ L ++ M, c.1 = x := by
  unfold bareR at h
  have h1 := List.find?_some h
  obtain ⟨c, hc, rfl⟩ := List.mem_map.mp (List.mem_of_find?_eq_some h)
  rw [← less_bare hL hM (both_nonneg hL hM c hc)] at h1
  refine ⟨fun z => ?_, h1, c, hc, rfl⟩
  exact List.filter_eq_nil_iff.mp z c hc h1
theorem repr_bool (b : Bool) : biD .repr [.bool b] = some (.val (.str (PyData.bool b).shown)) := by
  cases b <;> rfl
theorem eq_repr (a b : Bool) : eqD (.str (PyData.bool a).shown) (.str (PyData.bool b).shown) = some (a == b) := by
  cases a <;> cases b <;> decide +kernel
theorem cutD_to (l : List D) (k : Nat) : Mp.cutD l none (some (k : Int)) = l.take k := by
  unfold Mp.cutD
  have h1 : HT.sIx l.length 0 none = 0 := rfl
  have h2 : HT.sIx l.length l.length (some (k : Int)) = min k l.length := by
    simp [HT.sIx]
    omega
  rw [h1, h2]
  simp
theorem bin_powN {i j : Int} (h : 0 ≤ j ∧ j ≤ 1000000 ∧ i.natAbs < 2 ^ 64) : binD .pow (.int i) (.int j) = some (.val (.int (i ^ j.toNat))) := by
  show ned (decide (0 ≤ j ∧ j ≤ 1000000 ∧ i.natAbs < 2 ^ 64)) _ = _
  rw [decide_eq_true h]
  rfl
theorem all_true : ∀ (l : List Nat), biD .all [.list (l.map fun _ => .bool true)] = some (.val (.bool true)) := fun l => by
  have : boolsD (l.map fun _ => PyData.bool true) = some (l.map fun _ => true) := by
    induction l with
    | nil => rfl
    | cons a l ih =>
      show (boolsD (l.map fun _ => PyData.bool true)).map (true :: ·) = _
      rw [ih]
      rfl
  show (match boolsD (l.map fun _ => PyData.bool true) with
    | some bs => some (Rv.val (.bool (bs.all id)))
    | none => none) = _
  rw [this]
  simp
@[simp] theorem bi_min2 (i j : Int) : biD .min2 [.int i, .int j] = some (.val (.int (if j < i then j else i))) := rfl
@[simp] theorem bi_max2 (i j : Int) : biD .max2 [.int i, .int j] = some (.val (.int (if j > i then j else i))) := rfl
end Mp

end

section
namespace Mp
open PySem PySem.Spec PyProof.Rows L2

/-! ### the size below the line -/
def lb (u : U) : Nat := lg u.b
theorem lb_le (u : U) : lb u ≤ lu u := by unfold lb lu; omega
theorem la_le (u : U) : lg u.a ≤ lu u := by unfold lu; omega
theorem lb_of (q : Rat) : lb (U.of q) ≤ lq q := lb_le (U.of q)
theorem lb_add (u v : U) : lb (u.add v) ≤ lb u + lb v := lg_mul _ _
theorem lb_sub (u v : U) : lb (u.sub v) ≤ lb u + lb v := lg_mul _ _
theorem lb_mul (u v : U) : lb (u.mul v) ≤ lb u + lb v := lg_mul _ _
theorem lb_per (u v : U) : lb (u.per v) ≤ lb u + lu v := by
  have h1 := lg_mul u.b v.a
  have h2 := la_le v
  unfold lb U.per
  split
  · simp only
    omega
  · split
    · simp only
      rw [Int.zero_sub]
      have := lg_neg (u.b * v.a)
      omega
    · omega
/-! ### the law's own line at a pair that is not reduced -/
def axStep (x found : U) (p : Pc) : U :=
  if 0 ≤ x.val - p.1.1 then (U.of p.1.2).add ((((U.of p.2.2).sub (U.of p.1.2)).mul (if 0 < p.2.1 - x.val then x.sub (U.of p.1.1) else (U.of p.2.1).sub (U.of p.1.1))).per ((U.of p.2.1).sub (U.of p.1.1))) else found
def alongX (L : List (Rat × Rat)) (x : U) : U := (prs L).foldl (axStep x) (U.of (L.headD (0, 0)).2)
theorem axStep_val (x : U) (u : U) (p : Pc) (h : p.1.1 < p.2.1) : (axStep x u p).val = alR x.val u.val p := by
  unfold axStep alR
  have hn : ((U.of p.2.1).sub (U.of p.1.1)).val ≠ 0 := by simp; grind
  split
  · split <;> simp only [val_add, val_per _ _ hn, val_mul, val_sub, val_of]
  · rfl
theorem alongX_val {L : List (Rat × Rat)} {x : U} (h : ∀ p ∈ prs L, p.1.1 < p.2.1) : (alongX L x).val = alongR L x.val := by
  have go : ∀ (l : List Pc) (u : U), (∀ p ∈ l, p.1.1 < p.2.1) → (l.foldl (axStep x) u).val = l.foldl (alR x.val) u.val := by
    intro l
    induction l with
    | nil => intro u _; rfl
    | cons p l ih =>
      intro u h
      rw [List.foldl_cons, List.foldl_cons, ih _ fun q hq => h q (List.mem_cons_of_mem _ hq), axStep_val x u p (h p (List.mem_cons_self ..))]
  unfold alongX alongR
  rw [go _ _ h, val_of]
theorem axStep_sz {x : U} {u : U} {p : Pc} {k m : Nat} (hx : lu x ≤ m) (h1 : lc p.1 ≤ k) (h2 : lc p.2 ≤ k) (hu : lu u ≤ 40 * k + 8 * m + 40 ∧ lb u ≤ 10 * k + lb x + 40) : lu (axStep x u p) ≤ 40 * k + 8 * m + 40 ∧ lb (axStep x u p) ≤ 10 * k + lb x + 40 := by
  unfold lc at h1 h2
  unfold axStep
  have a1 := lu_of p.1.1
  have a2 := lu_of p.1.2
  have a3 := lu_of p.2.1
  have a4 := lu_of p.2.2
  have c1 := lb_of p.1.1
  have c2 := lb_of p.1.2
  have c3 := lb_of p.2.1
  have c4 := lb_of p.2.2
  have c5 := lb_le x
  split
  · split
    · have b1 := lu_sub x (U.of p.1.1)
      have b2 := lu_sub (U.of p.2.1) (U.of p.1.1)
      have b3 := lu_sub (U.of p.2.2) (U.of p.1.2)
      have b4 := lu_mul ((U.of p.2.2).sub (U.of p.1.2)) (x.sub (U.of p.1.1))
      have b5 := lu_per (((U.of p.2.2).sub (U.of p.1.2)).mul (x.sub (U.of p.1.1))) ((U.of p.2.1).sub (U.of p.1.1))
      have b6 := lu_add (U.of p.1.2) ((((U.of p.2.2).sub (U.of p.1.2)).mul (x.sub (U.of p.1.1))).per ((U.of p.2.1).sub (U.of p.1.1)))
      have d1 := lb_sub x (U.of p.1.1)
      have d3 := lb_sub (U.of p.2.2) (U.of p.1.2)
      have d4 := lb_mul ((U.of p.2.2).sub (U.of p.1.2)) (x.sub (U.of p.1.1))
      have d5 := lb_per (((U.of p.2.2).sub (U.of p.1.2)).mul (x.sub (U.of p.1.1))) ((U.of p.2.1).sub (U.of p.1.1))
      have d6 := lb_add (U.of p.1.2) ((((U.of p.2.2).sub (U.of p.1.2)).mul (x.sub (U.of p.1.1))).per ((U.of p.2.1).sub (U.of p.1.1)))
      omega
    · have b2 := lu_sub (U.of p.2.1) (U.of p.1.1)
      have b3 := lu_sub (U.of p.2.2) (U.of p.1.2)
      have b4 := lu_mul ((U.of p.2.2).sub (U.of p.1.2)) ((U.of p.2.1).sub (U.of p.1.1))
      have b5 := lu_per (((U.of p.2.2).sub (U.of p.1.2)).mul ((U.of p.2.1).sub (U.of p.1.1))) ((U.of p.2.1).sub (U.of p.1.1))
      have b6 := lu_add (U.of p.1.2) ((((U.of p.2.2).sub (U.of p.1.2)).mul ((U.of p.2.1).sub (U.of p.1.1))).per ((U.of p.2.1).sub (U.of p.1.1)))
      have d1 := lb_sub (U.of p.2.1) (U.of p.1.1)
      have d3 := lb_sub (U.of p.2.2) (U.of p.1.2)
      have d4 := lb_mul ((U.of p.2.2).sub (U.of p.1.2)) ((U.of p.2.1).sub (U.of p.1.1))
      have d5 := lb_per (((U.of p.2.2).sub (U.of p.1.2)).mul ((U.of p.2.1).sub (U.of p.1.1))) ((U.of p.2.1).sub (U.of p.1.1))
      have d6 := lb_add (U.of p.1.2) ((((U.of p.2.2).sub (U.of p.1.2)).mul ((U.of p.2.1).sub (U.of p.1.1))).per ((U.of p.2.1).sub (U.of p.1.1)))
      omega
  · exact hu
theorem alongX_sz {L : List (Rat × Rat)} {x : U} {k m : Nat} (h : ∀ c ∈ L, lc c ≤ k) (hx : lu x ≤ m) : lu (alongX L x) ≤ 40 * k + 8 * m + 40 ∧ lb (alongX L x) ≤ 10 * k + lb x + 40 := by
  have go : ∀ (l : List Pc) (u : U), (∀ p ∈ l, p ∈ prs L) → (lu u ≤ 40 * k + 8 * m + 40 ∧ lb u ≤ 10 * k + lb x + 40) → (lu (l.foldl (axStep x) u) ≤ 40 * k + 8 * m + 40 ∧ lb (l.foldl (axStep x) u) ≤ 10 * k + lb x + 40) := by
    intro l
    induction l with
    | nil => intro u _ h; exact h
    | cons p l ih =>
      intro u hl hu
      have hp := mem_prs (hl p (List.mem_cons_self ..))
      exact ih _ (fun q hq => hl q (List.mem_cons_of_mem _ hq)) (axStep_sz hx (h _ hp.1) (h _ hp.2) hu)
  refine go _ _ (fun p h => h) ?_
  have e := lu_of (L.headD (0, 0)).2
  have e2 := lb_of (L.headD (0, 0)).2
  have : lq (L.headD (0, 0)).2 ≤ k + 1 := by
    cases L with
    | nil =>
      have : lq 0 = 1 := by decide
      simp only [List.headD_nil]
      omega
    | cons c l =>
      have := h c (List.mem_cons_self ..)
      unfold lc at this
      simp only [List.headD_cons]
      omega
  omega
/-! ### tolls and the least of some -/
/-- the toll of a step by the corners -/
def tlStep (far lasts best : U) (c : Rat × Rat) : U := if 0 < (((U.of c.2).mul lasts).sub ((U.of c.1).mul far)).val - best.val then ((U.of c.2).mul lasts).sub ((U.of c.1).mul far) else best
def tollX (L : List (Rat × Rat)) (far lasts : U) : U := L.foldl (tlStep far lasts) (U.of 0)
def tlR (far lasts best : Rat) (c : Rat × Rat) : Rat := if 0 < c.2 * lasts - c.1 * far - best then c.2 * lasts - c.1 * far else best
def tollR (L : List (Rat × Rat)) (far lasts : Rat) : Rat := L.foldl (tlR far lasts) 0
theorem tollX_val (L : List (Rat × Rat)) (far lasts : U) : (tollX L far lasts).val = tollR L far.val lasts.val := by
  have go : ∀ (l : List (Rat × Rat)) (u : U), (l.foldl (tlStep far lasts) u).val = l.foldl (tlR far.val lasts.val) u.val := by
    intro l
    induction l with
    | nil => intro u; rfl
    | cons c l ih =>
      intro u
      rw [List.foldl_cons, List.foldl_cons, ih]
      congr 1
      unfold tlStep tlR
      simp only [val_sub, val_mul, val_of]
      split <;> simp
  unfold tollX tollR
  rw [go, val_of]
theorem tollX_sz {L : List (Rat × Rat)} {far lasts : U} {k m : Nat} (h : ∀ c ∈ L, lc c ≤ k) (h1 : lu far ≤ m) (h2 : lu lasts ≤ m) : lu (tollX L far lasts) ≤ 4 * k + 4 * m + 4 ∧ lb (tollX L far lasts) ≤ k + lb far + lb lasts + 2 := by
  have go : ∀ (l : List (Rat × Rat)) (u : U), (∀ c ∈ l, c ∈ L) → (lu u ≤ 4 * k + 4 * m + 4 ∧ lb u ≤ k + lb far + lb lasts + 2) → (lu (l.foldl (tlStep far lasts) u) ≤ 4 * k + 4 * m + 4 ∧ lb (l.foldl (tlStep far lasts) u) ≤ k + lb far + lb lasts + 2) := by
    intro l
    induction l with
    | nil => intro u _ h; exact h
    | cons c l ih =>
      intro u hl hu
      refine ih _ (fun d hd => hl d (List.mem_cons_of_mem _ hd)) ?_
      have hc := h c (hl c (List.mem_cons_self ..))
      unfold lc at hc
      unfold tlStep
      split
      · have a1 := lu_mul (U.of c.2) lasts
        have a2 := lu_mul (U.of c.1) far
        have a3 := lu_sub ((U.of c.2).mul lasts) ((U.of c.1).mul far)
        have a4 := lu_of c.1
        have a5 := lu_of c.2
        have b1 := lb_mul (U.of c.2) lasts
        have b2 := lb_mul (U.of c.1) far
        have b3 := lb_sub ((U.of c.2).mul lasts) ((U.of c.1).mul far)
        have b4 := lb_of c.1
        have b5 := lb_of c.2
        have b6 := lb_le far
        have b7 := lb_le lasts
        omega
      · exact hu
  refine go L _ (fun c h => h) ?_
  have e := lu_of 0
  have e2 := lb_of 0
  have : lq 0 = 1 := by decide
  omega
theorem tollR_ge {L : List (Rat × Rat)} {far lasts : Rat} : ∀ c ∈ L, c.2 * lasts - c.1 * far ≤ tollR L far lasts := by
  have go : ∀ (l : List (Rat × Rat)) (b : Rat), b ≤ l.foldl (tlR far lasts) b ∧ ∀ c ∈ l, c.2 * lasts - c.1 * far ≤ l.foldl (tlR far lasts) b := by
    intro l
    induction l with
    | nil => intro b; exact ⟨by simp, fun c hc => by cases hc⟩
    | cons c l ih =>
      intro b
      rw [List.foldl_cons]
      obtain ⟨h1, h2⟩ := ih (tlR far lasts b c)
      have h3 : b ≤ tlR far lasts b c ∧ c.2 * lasts - c.1 * far ≤ tlR far lasts b c := by
        unfold tlR
        split <;> constructor <;> grind
      refine ⟨by grind, fun d hd => ?_⟩
      rcases List.mem_cons.mp hd with rfl | hd
      · grind
      · exact h2 d hd
  exact (go L 0).2
theorem tollR_le {L : List (Rat × Rat)} {far lasts b : Rat} (h0 : 0 ≤ b) (h : ∀ c ∈ L, c.2 * lasts - c.1 * far ≤ b) : tollR L far lasts ≤ b := by
  have go : ∀ (l : List (Rat × Rat)) (a : Rat), a ≤ b → (∀ c ∈ l, c.2 * lasts - c.1 * far ≤ b) → l.foldl (tlR far lasts) a ≤ b := by
    intro l
    induction l with
    | nil => intro a ha _; exact ha
    | cons c l ih =>
      intro a ha h
      rw [List.foldl_cons]
      refine ih _ ?_ fun d hd => h d (List.mem_cons_of_mem _ hd)
      have := h c (List.mem_cons_self ..)
      unfold tlR
      split <;> grind
  exact go L 0 h0 h
/-- the least of some -/
def lsStep (b : Option U) (p : U × Option U) : Option U := match p.2, b with
  | none, b => b
  | some c, none => some (p.1.add c)
  | some c, some b => if (p.1.add c).val - b.val < 0 then some (p.1.add c) else some b
def leastX (l : List (U × Option U)) : Option U := l.foldl lsStep none
theorem least_is {l : List (U × Option U)} {V : Rat} (h1 : ∀ p ∈ l, ∀ c, p.2 = some c → V ≤ p.1.val + c.val) (h2 : ∃ p ∈ l, ∃ c, p.2 = some c ∧ p.1.val + c.val = V) : ∃ u, leastX l = some u ∧ u.val = V := by
  have go : ∀ (l : List (U × Option U)) (b : Option U), (∀ p ∈ l, ∀ c, p.2 = some c → V ≤ p.1.val + c.val) → (∀ u, b = some u → V ≤ u.val) → ((∃ u, b = some u ∧ u.val = V) ∨ ∃ p ∈ l, ∃ c, p.2 = some c ∧ p.1.val + c.val = V) → ∃ u, l.foldl lsStep b = some u ∧ u.val = V := by
    intro l
    induction l with
    | nil =>
      intro b _ _ h
      rcases h with h | ⟨p, hp, _⟩
      · exact h
      · cases hp
    | cons p l ih =>
      intro b h1 hb h2
      rw [List.foldl_cons]
      have hp := h1 p (List.mem_cons_self ..)
      refine ih _ (fun q hq => h1 q (List.mem_cons_of_mem _ hq)) ?_ ?_
      · intro u hu
        obtain ⟨n, c⟩ := p
        unfold lsStep at hu
        cases c with
        | none => exact hb u hu
        | some c =>
          have := hp c rfl
          cases b with
          | none =>
            cases hu
            simp only [val_add]
            exact this
          | some b =>
            simp only at hu
            split at hu
            · cases hu
              simp only [val_add]
              exact this
            · cases hu
              exact hb _ rfl
      · rcases h2 with ⟨u, rfl, hu⟩ | ⟨q, hq, c, hc, e⟩
        · left
          obtain ⟨n, c⟩ := p
          unfold lsStep
          cases c with
          | none => exact ⟨u, rfl, hu⟩
          | some c =>
            have := hp c rfl
            simp only [val_add] at this ⊢
            rw [if_neg (by grind)]
            exact ⟨u, rfl, hu⟩
        · rcases List.mem_cons.mp hq with rfl | hq
          · left
            obtain ⟨n, c'⟩ := q
            simp only at hc e
            subst hc
            unfold lsStep
            cases b with
            | none => exact ⟨_, rfl, by simp only [val_add]; exact e⟩
            | some b =>
              simp only [val_add]
              split
              · exact ⟨_, rfl, by simp only [val_add]; exact e⟩
              · have := hb b rfl
                exact ⟨b, rfl, by grind⟩
          · exact .inr ⟨q, hq, c, hc, e⟩
  exact go l none h1 (fun u hu => by cases hu) (.inr h2)
theorem least_sz {l : List (U × Option U)} {m : Nat} (h : ∀ p ∈ l, ∀ c, p.2 = some c → lb (p.1.add c) ≤ m) : ∀ u, leastX l = some u → lb u ≤ m := by
  have go : ∀ (l : List (U × Option U)) (b : Option U), (∀ p ∈ l, ∀ c, p.2 = some c → lb (p.1.add c) ≤ m) → (∀ u, b = some u → lb u ≤ m) → ∀ u, l.foldl lsStep b = some u → lb u ≤ m := by
    intro l
    induction l with
    | nil => intro b _ h; exact h
    | cons p l ih =>
      intro b h1 hb
      rw [List.foldl_cons]
      refine ih _ (fun q hq => h1 q (List.mem_cons_of_mem _ hq)) ?_
      intro u hu
      have hp := h1 p (List.mem_cons_self ..)
      obtain ⟨n, c⟩ := p
      unfold lsStep at hu
      cases c with
      | none => exact hb u hu
      | some c =>
        cases b with
        | none =>
          cases hu
          exact hp c rfl
        | some b =>
          simp only at hu
          split at hu
          · cases hu
            exact hp c rfl
          · cases hu
            exact hb _ rfl
  exact go l none h fun u hu => by cases hu
end Mp

end

section
namespace Mp
open PySem PySem.Spec PyProof.Rows L2

/-! ### lines that lie above a kind -/
theorem slope_eq {c d : Rat × Rat} (h : c.1 < d.1) : d.2 = c.2 + slope (c, d) * (d.1 - c.1) := by
  unfold slope
  simp only
  have : d.1 - c.1 ≠ 0 := by grind
  grind
theorem Cc.mono {c d : Rat × Rat} : ∀ {l : List (Rat × Rat)}, Cc (c :: d :: l) → ∀ e ∈ d :: l, c.1 < e.1 := by
  intro l
  induction l generalizing c d with
  | nil => intro h e he; rw [List.mem_singleton.mp he]; exact h
  | cons f l ih =>
    intro h e he
    rcases List.mem_cons.mp he with rfl | he
    · exact h.lt
    · have := ih h.tail e he
      have := h.lt
      grind
theorem Cc.fwd {c d : Rat × Rat} : ∀ {l : List (Rat × Rat)}, Cc (c :: d :: l) → ∀ e ∈ d :: l, e.2 ≤ c.2 + slope (c, d) * (e.1 - c.1) := by
  intro l
  induction l generalizing c d with
  | nil =>
    intro h e he
    rw [List.mem_singleton.mp he]
    have := slope_eq h.lt
    grind
  | cons f l ih =>
    intro h e he
    rcases List.mem_cons.mp he with rfl | he
    · have := slope_eq h.lt
      grind
    · have h1 := ih h.tail e he
      have h2 := h.tail.mono e he
      have h3 : slope (d, f) < slope (c, d) := h.2.1
      have h4 := slope_eq h.lt
      have h5 := Rat.mul_lt_mul_of_pos_right h3 (show 0 < e.1 - d.1 by grind)
      generalize slope (c, d) = s at *
      generalize slope (d, f) = t at *
      grind
theorem Cc.less {a b : Rat × Rat} : ∀ {l : List (Rat × Rat)}, Cc (a :: b :: l) → ∀ p ∈ prs (b :: l), slope p < slope (a, b) := by
  intro l
  induction l generalizing a b with
  | nil => intro h p hp; simp at hp
  | cons c l ih =>
    intro h p hp
    rw [prs_cons] at hp
    have h1 : slope (b, c) < slope (a, b) := h.2.1
    rcases List.mem_cons.mp hp with rfl | hp
    · exact h1
    · have := ih h.tail p hp
      grind
theorem Cc.above : ∀ {L : List (Rat × Rat)}, Cc L → ∀ p ∈ prs L, ∀ e ∈ L, e.2 ≤ p.1.2 + slope p * (e.1 - p.1.1)
  | [], _, p, hp, _, _ => by simp at hp
  | [_], _, p, hp, _, _ => by simp at hp
  | a :: b :: l, h, p, hp, e, he => by
    rw [prs_cons] at hp
    rcases List.mem_cons.mp hp with rfl | hq
    · rcases List.mem_cons.mp he with rfl | he
      · simp only
        grind
      · exact h.fwd e he
    · have ih := Cc.above h.tail p hq
      have h2 := h.less p hq
      rcases List.mem_cons.mp he with rfl | he
      · have h1 := ih b (by simp)
        have h3 := slope_eq h.lt
        have h4 := Rat.mul_lt_mul_of_pos_right h2 (show 0 < b.1 - e.1 by have := h.lt; grind)
        generalize slope p = s at *
        generalize slope (e, b) = t at *
        grind
      · exact ih e he
/-- the piece in which a density lies -/
theorem flow_piece : ∀ (l : List (Rat × Rat)) (c : Rat × Rat) (x : Rat), c.1 ≤ x → x ≤ full (c :: l) → l ≠ [] → ∃ p ∈ prs (c :: l), p.1.1 ≤ x ∧ x ≤ p.2.1 ∧ flowGo x c l = p.1.2 + slope p * (x - p.1.1) := by
  intro l
  induction l with
  | nil => intro c x _ _ h; exact absurd rfl h
  | cons d l ih =>
    intro c x h0 h1 _
    by_cases hd : d.1 < x
    · cases l with
      | nil =>
        unfold full at h1
        simp at h1
        grind
      | cons e l =>
        obtain ⟨p, hp, h2⟩ := ih d x (by grind) (by unfold full at h1 ⊢; simpa using h1) (by simp)
        refine ⟨p, by rw [prs_cons]; exact List.mem_cons_of_mem _ hp, ?_⟩
        unfold flowGo
        rw [if_pos hd]
        exact h2
    · refine ⟨(c, d), by simp, h0, by grind, ?_⟩
      unfold flowGo
      rw [if_neg hd]
      rfl
theorem VK.piece {L : List (Rat × Rat)} (h : VK L) {x : Rat} (h0 : 0 ≤ x) (h1 : x ≤ full L) : ∃ p ∈ prs L, p.1.1 ≤ x ∧ x ≤ p.2.1 ∧ flow L x = p.1.2 + slope p * (x - p.1.1) := by
  have hl := h.len
  have hd := headD_vk h
  match L, hl with
  | c :: d :: l, _ =>
    simp only [List.headD_cons] at hd
    exact flow_piece (d :: l) c x (by rw [hd]; exact h0) h1 (by simp)
theorem VK.cc {L : List (Rat × Rat)} (h : VK L) : Cc L := (cc_iff L).mpr ⟨h.inc, h.dec⟩
/-- every step's toll is at least this -/
theorem toll_ge {L : List (Rat × Rat)} (h : VK L) {x far lasts : Rat} (h0 : 0 ≤ x) (h1 : x ≤ full L) (ht : 0 ≤ lasts) : flow L x * lasts - x * far ≤ tollR L far lasts := by
  obtain ⟨p, hp, a1, a2, e⟩ := h.piece h0 h1
  obtain ⟨m1, m2⟩ := mem_prs hp
  have g1 := tollR_ge (far := far) (lasts := lasts) p.1 m1
  have g2 := tollR_ge (far := far) (lasts := lasts) p.2 m2
  have hi := h.inc p hp
  have e2 : p.2.2 = p.1.2 + slope p * (p.2.1 - p.1.1) := slope_eq hi
  generalize tollR L far lasts = M at g1 g2 ⊢
  have d : 0 < p.2.1 - p.1.1 := by grind
  have lam : ∃ z : Rat, 0 ≤ z ∧ z ≤ 1 ∧ x = p.1.1 + z * (p.2.1 - p.1.1) := by
    refine ⟨(x - p.1.1) / (p.2.1 - p.1.1), ?_, ?_, ?_⟩
    · rw [Rat.div_def]
      exact Rat.mul_nonneg (by grind) (by have := Rat.inv_pos.mpr d; grind)
    · have e3 : (x - p.1.1) / (p.2.1 - p.1.1) * (p.2.1 - p.1.1) = x - p.1.1 := Rat.div_mul_cancel (by grind)
      generalize (x - p.1.1) / (p.2.1 - p.1.1) = z at e3
      by_cases hz : z ≤ 1
      · exact hz
      · have := Rat.mul_lt_mul_of_pos_right (show 1 < z by grind) d
        grind
    · rw [Rat.div_mul_cancel (by grind)]
      grind
  obtain ⟨z, z0, z1, ez⟩ := lam
  have k1 := Rat.mul_nonneg z0 (show 0 ≤ M - (p.2.2 * lasts - p.2.1 * far) by grind)
  have k2 := Rat.mul_nonneg (show 0 ≤ 1 - z by grind) (show 0 ≤ M - (p.1.2 * lasts - p.1.1 * far) by grind)
  have ef : flow L x = p.1.2 + z * (p.2.2 - p.1.2) := by
    rw [e]
    generalize slope p = s at e2
    rw [e2, ez]
    grind
  rw [ef, ez]
  grind
/-- with the speed of the piece it is just this -/
theorem toll_eq {L : List (Rat × Rat)} (h : VK L) {x lasts : Rat} (h0 : 0 ≤ x) (h1 : x ≤ full L) (ht : 0 ≤ lasts) : ∃ v ∈ slopes L, flow L x * lasts - x * (v * lasts) = tollR L (v * lasts) lasts := by
  obtain ⟨p, hp, a1, a2, e⟩ := h.piece h0 h1
  refine ⟨slope p, List.mem_map_of_mem hp, ?_⟩
  have g := toll_ge h h0 h1 ht (far := slope p * lasts)
  have le : tollR L (slope p * lasts) lasts ≤ flow L x * lasts - x * (slope p * lasts) := by
    have key : ∀ c ∈ L, c.2 - c.1 * slope p ≤ flow L x - x * slope p := fun c hc => by
      have := h.cc.above p hp c hc
      rw [e]
      grind
    have key2 : ∀ c ∈ L, c.2 * lasts - c.1 * (slope p * lasts) ≤ flow L x * lasts - x * (slope p * lasts) := fun c hc => by
      have := Rat.mul_le_mul_of_nonneg_right (key c hc) ht
      grind
    have z : (0, 0) ∈ L := by
      have := h.hd
      cases L with
      | nil => cases this
      | cons c l => cases this; simp
    have := key2 (0, 0) z
    exact tollR_le (by grind) key2
  grind
theorem sorted_ends : ∀ (l : List Rat), (∀ p ∈ prs l, p.2 < p.1) → ∀ v ∈ l, v ≤ l.headD 0 ∧ l.getLastD 0 ≤ v
  | [], _, v, h => by cases h
  | [a], _, v, h => by
    rw [List.mem_singleton.mp h]
    simp
  | a :: b :: l, h, v, hv => by
    have h1 : b < a := h (a, b) (by simp)
    have ih := sorted_ends (b :: l) fun p hp => h p (by rw [prs_cons]; exact List.mem_cons_of_mem _ hp)
    have e : (a :: b :: l).getLastD 0 = (b :: l).getLastD 0 := by simp [List.getLastD_eq_getLast?]
    rw [e]
    rcases List.mem_cons.mp hv with rfl | hv
    · have := (ih b (by simp)).2
      simp only [List.headD_cons]
      grind
    · have := ih v hv
      simp only [List.headD_cons] at this ⊢
      grind
/-- the greatest size of some -/
def fsStep (f s : Rat) : Rat := if f < (if 0 < s then s else 0 - s) then (if 0 < s then s else 0 - s) else f
def fastest (l : List Rat) : Rat := l.foldl fsStep 0
theorem fastest_ge {l : List Rat} : 0 ≤ fastest l ∧ ∀ s ∈ l, s ≤ fastest l ∧ -s ≤ fastest l := by
  have go : ∀ (l : List Rat) (f : Rat), f ≤ l.foldl fsStep f ∧ ∀ s ∈ l, s ≤ l.foldl fsStep f ∧ -s ≤ l.foldl fsStep f := by
    intro l
    induction l with
    | nil => intro f; exact ⟨by simp, fun s hs => by cases hs⟩
    | cons c l ih =>
      intro f
      rw [List.foldl_cons]
      obtain ⟨h1, h2⟩ := ih (fsStep f c)
      have h3 : f ≤ fsStep f c ∧ c ≤ fsStep f c ∧ -c ≤ fsStep f c := by
        unfold fsStep
        split <;> split <;> refine ⟨?_, ?_, ?_⟩ <;> grind
      refine ⟨by grind, fun s hs => ?_⟩
      rcases List.mem_cons.mp hs with rfl | hs
      · grind
      · exact h2 s hs
  exact go l 0
theorem fastest_in : ∀ (l : List Rat), fastest l = 0 ∨ ∃ s ∈ l, fastest l = s ∨ fastest l = 0 - s := by
  have go : ∀ (l : List Rat) (f : Rat), l.foldl fsStep f = f ∨ ∃ s ∈ l, l.foldl fsStep f = s ∨ l.foldl fsStep f = 0 - s := by
    intro l
    induction l with
    | nil => intro f; exact .inl rfl
    | cons c l ih =>
      intro f
      rw [List.foldl_cons]
      rcases ih (fsStep f c) with h | ⟨s, hs, h⟩
      · rw [h]
        have : fsStep f c = f ∨ fsStep f c = c ∨ fsStep f c = 0 - c := by
          unfold fsStep
          by_cases hc : 0 < c
          · simp only [if_pos hc]
            split
            · exact .inr (.inl rfl)
            · exact .inl rfl
          · simp only [if_neg hc]
            split
            · exact .inr (.inr rfl)
            · exact .inl rfl
        rcases this with e | e | e
        · exact .inl e
        · exact .inr ⟨c, by simp, .inl e⟩
        · exact .inr ⟨c, by simp, .inr e⟩
      · exact .inr ⟨s, List.mem_cons_of_mem _ hs, h⟩
  intro l
  exact go l 0
theorem VK.first_slope {L : List (Rat × Rat)} (h : VK L) : ∃ s ∈ slopes L, 0 < s := by
  have hl := h.len
  have hd := headD_vk h
  match L, hl with
  | a :: b :: c :: l, _ =>
    simp only [List.headD_cons] at hd
    subst hd
    refine ⟨slope ((0, 0), b), by simp [slopes], ?_⟩
    have h1 : (0 : Rat) < b.1 := h.inc ((0, 0), b) (by simp)
    have h2 : 0 < b.2 := h.mid b (by simp)
    unfold slope
    simp only
    rw [Rat.div_def]
    exact Rat.mul_pos (by grind) (Rat.inv_pos.mpr (by grind))
end Mp

end

section
namespace Mp
open PySem PySem.Spec PyProof.Rows L2

/-! ### where draws come from: springs -/
def dwN (C : Ck) : Int := (C.s * (31607 + 6 * (C.n + 1)) + 90247 * (C.n + 1) + 17) % 2147483587
def dwV (C : Ck) (t : Int) : Int := if 0 < C.a then C.a % t else (dwN C / 71) % t
def dwS (C : Ck) (t : Int) : Ck := if 0 < C.a then ⟨C.a / t, C.s, C.n⟩ else ⟨C.a, dwN C, C.n + 1⟩
theorem dwN_lo (C : Ck) : 0 ≤ dwN C := Int.emod_nonneg _ (by decide)
theorem dwN_hi (C : Ck) : dwN C < 2147483587 := Int.emod_lt_of_pos _ (by decide)
theorem dwV_lo (C : Ck) {t : Int} (h : 0 < t) : 0 ≤ dwV C t := by
  unfold dwV
  split <;> exact Int.emod_nonneg _ (by omega)
theorem dwV_hi (C : Ck) {t : Int} (h : 0 < t) : dwV C t < t := by
  unfold dwV
  split <;> exact Int.emod_lt_of_pos _ h
theorem Ck.ok.dw {k : Int} {C : Ck} (h : C.ok k) {t : Int} (ht : 0 < t) : (dwS C t).ok (k + 1) := by
  have h1 := h.1
  have h2 := h.2
  have h3 := h.3
  have h4 := h.4
  have h5 := h.5
  unfold dwS
  split
  · exact ⟨Int.ediv_nonneg h1 (by omega), h2, h3, h4, by show C.n ≤ k + 1; omega⟩
  · have := dwN_lo C
    have := dwN_hi C
    exact ⟨h1, by show 0 ≤ dwN C; omega, by show dwN C < 2147483648; omega, by show 0 ≤ C.n + 1; omega, by show C.n + 1 ≤ k + 1; omega⟩
/-- a fraction in its lowest form, by a divisor below 0 -/
theorem fdiv_neg_gcd (a b : Int) (hb : b < 0) : a.fdiv (0 - ((Nat.gcd a.natAbs b.natAbs : Nat) : Int)) = (-a) / ((Nat.gcd a.natAbs b.natAbs : Nat) : Int) ∧ b.fdiv (0 - ((Nat.gcd a.natAbs b.natAbs : Nat) : Int)) = (-b) / ((Nat.gcd a.natAbs b.natAbs : Nat) : Int) := by
  have g0 : ((Nat.gcd a.natAbs b.natAbs : Nat) : Int) ≠ 0 := gcd_ne (by omega)
  have d1 : ((Nat.gcd a.natAbs b.natAbs : Nat) : Int) ∣ a := Int.ofNat_dvd_left.mpr (Nat.gcd_dvd_left _ _)
  have d2 : ((Nat.gcd a.natAbs b.natAbs : Nat) : Int) ∣ b := Int.ofNat_dvd_left.mpr (Nat.gcd_dvd_right _ _)
  generalize ((Nat.gcd a.natAbs b.natAbs : Nat) : Int) = g at *
  obtain ⟨c, rfl⟩ := d1
  obtain ⟨d, rfl⟩ := d2
  have e : ∀ z : Int, (g * z).fdiv (0 - g) = -(g * z) / g := fun z => by
    have h1 : g * z = (0 - g) * (-z) := by grind
    have h2 : -(g * z) = g * (-z) := by grind
    rw [h2, Int.mul_ediv_cancel_left _ g0, h1, Int.mul_fdiv_cancel_left _ (by omega)]
  exact ⟨e c, e d⟩
theorem bi_sum_ints (ns : List Int) : biD .sum [.list (ns.map .int)] = some (.val (.int ns.sum)) := by
  have : intsD (ns.map PyData.int) = some ns := by
    induction ns with
    | nil => rfl
    | cons a l ih =>
      show (intsD (l.map PyData.int)).map (a :: ·) = _
      rw [ih]
      rfl
  show (match intsD (ns.map PyData.int) with
    | some ns => some (Rv.val (.int ns.sum))
    | none => none) = _
  rw [this]
end Mp

end

section
namespace Mp
open PySem PySem.Spec PyProof.Rows L2

/-! ### loops whose turns are told one by one -/
theorem for_ex {α : Type} {S : Sc} {T : Tg} {B : Sms} {ds : List D} {f : α → D} (P : Nat → En → Prop) : ∀ {l : List α} {σ : En} {z : R (Fl × En)}, forD (fb S T B) (ds, none) (l.map f) σ = z → P l.length σ →
    (∀ r a σ, a ∈ l → P (r + 1) σ → ∃ σ', fb S T B (f a) σ = .ok (.nx, σ') ∧ P r σ') → ∃ σ', z = .ok (.nx, σ') ∧ P 0 σ'
  | [], σ, z, hz, hP, _ => ⟨σ, by rw [← hz]; simp, hP⟩
  | a :: l, σ, z, hz, hP, h => by
    obtain ⟨σ1, e1, h1⟩ := h l.length a σ (List.mem_cons_self ..) hP
    rw [List.map_cons, for_cons, e1, rb_ok, lp_nx] at hz
    exact for_ex P hz h1 fun r b σ hb => h r b σ (List.mem_cons_of_mem _ hb)
/-- the same, with the items that are done -/
theorem for_at {α : Type} {S : Sc} {T : Tg} {B : Sms} {ds : List D} {f : α → D} (P : List α → En → Prop) (L : List α) : ∀ {l done : List α} {σ : En} {z : R (Fl × En)}, L = done ++ l → forD (fb S T B) (ds, none) (l.map f) σ = z → P done σ →
    (∀ done a rest σ, L = done ++ a :: rest → P done σ → ∃ σ', fb S T B (f a) σ = .ok (.nx, σ') ∧ P (done ++ [a]) σ') → ∃ σ', z = .ok (.nx, σ') ∧ P L σ'
  | [], done, σ, z, hL, hz, hP, _ => ⟨σ, by rw [← hz]; simp, by rw [hL, List.append_nil]; exact hP⟩
  | a :: l, done, σ, z, hL, hz, hP, h => by
    obtain ⟨σ1, e1, h1⟩ := h done a l σ hL hP
    rw [List.map_cons, for_cons, e1, rb_ok, lp_nx] at hz
    exact for_at P L (done := done ++ [a]) (by rw [hL]; simp) hz h1 h
/-! ### sizes above and below the line -/
def ln (q : Rat) : Nat := lg q.num
def ld (q : Rat) : Nat := lg (q.den : Nat)
theorem lq_nd (q : Rat) : lq q = ln q + ld q := rfl
theorem nd_divInt {t b : Int} (h0 : b ≠ 0) : ln (Rat.divInt t b) ≤ lg t ∧ ld (Rat.divInt t b) ≤ lg b := by
  constructor
  · apply lg_le
    have := sz_lg t
    unfold Sz at *
    rw [Rat.num_divInt]
    have h1 : (b.sign * t / ((b.gcd t : Nat) : Int)).natAbs ≤ (b.sign * t).natAbs := Int.natAbs_ediv_le_natAbs _ _
    have h2 : (b.sign * t).natAbs ≤ t.natAbs := by
      rw [Int.natAbs_mul]
      have : b.sign.natAbs ≤ 1 := by
        rw [Int.natAbs_sign]
        split <;> omega
      calc b.sign.natAbs * t.natAbs ≤ 1 * t.natAbs := Nat.mul_le_mul_right _ this
        _ = t.natAbs := Nat.one_mul _
    omega
  · apply lg_le
    have := sz_lg b
    unfold Sz at *
    rw [Rat.den_divInt, if_neg h0, Int.natAbs_natCast]
    exact Nat.lt_of_le_of_lt (Nat.div_le_self _ _) this
theorem lg_add' (i j : Int) : lg (i + j) ≤ max (lg i) (lg j) + 1 := lg_le ((sz_lg i).add (sz_lg j))
theorem lg_sub' (i j : Int) : lg (i - j) ≤ max (lg i) (lg j) + 1 := lg_le ((sz_lg i).sub (sz_lg j))
theorem nd_add (a b : Rat) : ln (a + b) ≤ max (ln a + ld b) (ln b + ld a) + 1 ∧ ld (a + b) ≤ ld a + ld b := by
  rw [← add_divInt]
  have h := nd_divInt (t := a.num * (b.den : Nat) + b.num * (a.den : Nat)) (dens_ne a b)
  have h1 := lg_add' (a.num * (b.den : Nat)) (b.num * (a.den : Nat))
  have h2 := lg_mul a.num (b.den : Nat)
  have h3 := lg_mul b.num (a.den : Nat)
  have h4 := lg_mul (a.den : Nat) (b.den : Nat)
  unfold ln ld at *
  omega
theorem nd_sub (a b : Rat) : ln (a - b) ≤ max (ln a + ld b) (ln b + ld a) + 1 ∧ ld (a - b) ≤ ld a + ld b := by
  rw [← sub_divInt]
  have h := nd_divInt (t := a.num * (b.den : Nat) - b.num * (a.den : Nat)) (dens_ne a b)
  have h1 := lg_sub' (a.num * (b.den : Nat)) (b.num * (a.den : Nat))
  have h2 := lg_mul a.num (b.den : Nat)
  have h3 := lg_mul b.num (a.den : Nat)
  have h4 := lg_mul (a.den : Nat) (b.den : Nat)
  unfold ln ld at *
  omega
theorem nd_mul (a b : Rat) : ln (a * b) ≤ ln a + ln b ∧ ld (a * b) ≤ ld a + ld b := by
  rw [← mul_divInt]
  have h := nd_divInt (t := a.num * b.num) (dens_ne a b)
  have h2 := lg_mul a.num b.num
  have h3 := lg_mul (a.den : Nat) (b.den : Nat)
  unfold ln ld at *
  omega
theorem nd_div {a b : Rat} (h0 : b ≠ 0) : ln (a / b) ≤ ln a + ld b ∧ ld (a / b) ≤ ld a + ln b := by
  rw [← div_divInt]
  have h := nd_divInt (t := a.num * (b.den : Nat)) (b := (a.den : Nat) * b.num) (Int.mul_ne_zero (den_ne a) (num_ne h0))
  have h2 := lg_mul a.num (b.den : Nat)
  have h3 := lg_mul (a.den : Nat) b.num
  unfold ln ld at *
  omega
theorem Bd.nd {d B k m : Nat} {q : Rat} (h : Bd d B q) (hd : 0 < d) (hk : B < 2 ^ k) (hm : d < 2 ^ m) : ln q ≤ k ∧ ld q ≤ m := by
  obtain ⟨n, rfl, h⟩ := h
  have h1 := nd_divInt (t := n) (b := (d : Nat)) (by omega)
  have h2 := lg_nat h hk
  have h3 := lg_nat (i := (d : Nat)) (B := d) (k := m) (by simp) hm
  omega
theorem cutD_init (l : List D) : Mp.cutD l none (some (-1)) = l.dropLast := by
  unfold Mp.cutD
  have h1 : HT.sIx l.length 0 none = 0 := rfl
  have h2 : HT.sIx l.length l.length (some (-1)) = l.length - 1 := by
    simp [HT.sIx]
    try omega
  rw [h1, h2, List.dropLast_eq_take]
  simp
/-! ### roads -/
def dvV (C : Ck) (i j : Int) : Rat := Rat.divInt (1 + dwV C i) (1 + dwV (dwS C i) j)
def dvS (C : Ck) (i j : Int) : Ck := dwS (dwS C i) j
theorem dvV_pos (C : Ck) {i j : Int} (hi : 0 < i) (hj : 0 < j) : 0 < dvV C i j := by
  have := dwV_lo C hi
  have := dwV_lo (dwS C i) hj
  exact divInt_pos (by omega) (by omega)
theorem dvV_bd (C : Ck) {i j : Int} {d A : Nat} (hi : 0 < i) (hj : 0 < j) (hA : i ≤ A) (hd : ∀ b : Int, 0 < b → b ≤ j → b ∣ (d : Nat)) (d0 : 0 < d) : Bd d (A * d) (dvV C i j) := by
  have h1 := dwV_lo C hi
  have h2 := dwV_lo (dwS C i) hj
  have h3 := dwV_hi C hi
  have h4 := dwV_hi (dwS C i) hj
  exact Bd.of (by omega) (hd _ (by omega) (by omega)) (by omega) d0
theorem dvS_ok {C : Ck} {i j k : Int} (h : C.ok k) (hi : 0 < i) (hj : 0 < j) : (dvS C i j).ok (k + 2) := ((h.dw hi).dw hj).mono (by omega)
theorem two_dvd (d : Nat) (h : d % 2 = 0) : ∀ b : Int, 0 < b → b ≤ 2 → b ∣ (d : Nat) := fun b h1 h2 => dvd_small d (by omega)
theorem three_dvd (d : Nat) (h : d % 6 = 0) : ∀ b : Int, 0 < b → b ≤ 3 → b ∣ (d : Nat) := fun b h1 h2 => by
  have : b = 1 ∨ b = 2 ∨ b = 3 := by omega
  rcases this with rfl | rfl | rfl <;> omega
/-- slopes of a road -/
structure Pcs (ps : List Rat) : Prop where
  len : 2 ≤ ps.length
  len2 : ps.length ≤ 4
  dec : ∀ p ∈ prs ps, p.2 < p.1
  hd : 0 < ps.headD 0
  lst : ps.getLastD 0 < 0
  bd : ∀ p ∈ ps, Bd 48 528 p
/-- a kind that the laws of roads draw -/
structure RoadOk (L : List (Rat × Rat)) : Prop where
  vk : VK L
  sz : ∀ c ∈ L, lc c ≤ 185
  sp : ∀ s ∈ slopes L, lq s ≤ 20
/-- on the way: so many slopes are done -/
structure RI (done : List Rat) (k q : Rat) (f : List (Rat × Rat)) : Prop where
  hd : f.head? = some (0, 0)
  last : f.getLast? = some (k, q)
  pos : ∀ c ∈ f.tail, 0 < c.2
  inc : ∀ p ∈ prs f, p.1.1 < p.2.1
  sl : slopes f = done
  q0 : done ≠ [] → 0 < q
  q1 : done = [] → q = 0
  kn : ln k ≤ 25 * done.length
  kd : ld k ≤ 21 * done.length + 1
  qb : Bd (96 * 2 ^ done.length) (3168 * done.length * 2 ^ done.length) q
  sz : ∀ c ∈ f, lc c ≤ 180
theorem RI.ne {done : List Rat} {k q : Rat} {f : List (Rat × Rat)} (h : RI done k q f) : f ≠ [] := by
  have := h.hd
  intro z
  rw [z] at this
  cases this
theorem RI.nd {done : List Rat} {k q : Rat} {f : List (Rat × Rat)} (h : RI done k q f) (hd : done.length ≤ 3) : ln q ≤ 17 ∧ ld q ≤ 10 := by
  have hb := h.qb
  have : done.length = 0 ∨ done.length = 1 ∨ done.length = 2 ∨ done.length = 3 := by omega
  rcases this with e | e | e | e <;> rw [e] at hb <;> exact hb.nd (by decide) (by decide) (by decide)
theorem RI.step {done : List Rat} {k q p w : Rat} {f : List (Rat × Rat)} (h : RI done k q f) (hd : done.length ≤ 2) (w0 : 0 < w) (m0 : 0 < q + p * w) (wn : ln w ≤ 23) (wd : ld w ≤ 21)
    (hb : Bd (96 * 2 ^ (done.length + 1)) (3168 * (done.length + 1) * 2 ^ (done.length + 1)) (q + p * w)) : RI (done ++ [p]) (k + w) (q + p * w) (f ++ [(k + w, q + p * w)]) := by
  have e : slope ((k, q), (k + w, q + p * w)) = p := by
    unfold slope
    simp only
    grind
  have es := slopes_snoc (x := (k + w, q + p * w)) h.last
  rw [e] at es
  have nk := nd_add k w
  have k1 := h.kn
  have k2 := h.kd
  have hl : (done ++ [p]).length = done.length + 1 := by simp
  have qn : ln (q + p * w) ≤ 17 ∧ ld (q + p * w) ≤ 10 := by
    have : done.length = 0 ∨ done.length = 1 ∨ done.length = 2 := by omega
    rcases this with e | e | e <;> rw [e] at hb <;> exact hb.nd (by decide) (by decide) (by decide)
  refine ⟨?_, ?_, ?_, ?_, ?_, fun _ => m0, fun z => by simp at z, ?_, ?_, by rw [hl]; exact hb, ?_⟩
  · have := h.hd
    cases hf : f with
    | nil => exact absurd hf h.ne
    | cons c l => rw [hf] at this; exact this
  · simp
  · intro c hc
    rw [tail_snoc h.ne] at hc
    rcases List.mem_append.mp hc with hc | hc
    · exact h.pos c hc
    · rw [List.mem_singleton.mp hc]
      exact m0
  · intro x hx
    rw [prs_snoc _ _ _ h.last] at hx
    rcases List.mem_append.mp hx with hx | hx
    · exact h.inc x hx
    · rw [List.mem_singleton.mp hx]
      grind
  · rw [es, h.sl]
  · rw [hl]
    omega
  · rw [hl]
    omega
  · intro c hc
    rcases List.mem_append.mp hc with hc | hc
    · exact h.sz c hc
    · rw [List.mem_singleton.mp hc]
      unfold lc
      simp only [lq_nd]
      omega
theorem RI.plain {done : List Rat} {k q p w : Rat} {f : List (Rat × Rat)} (h : RI done k q f) (hd : done.length ≤ 2) (hp : Bd 48 528 p) (hw : Bd 2 6 w) (w0 : 0 < w) (m0 : 0 < q + p * w) : RI (done ++ [p]) (k + w) (q + p * w) (f ++ [(k + w, q + p * w)]) := by
  have wn := hw.nd (k := 3) (m := 2) (by decide) (by decide) (by decide)
  refine h.step hd w0 m0 (by omega) (by omega) ?_
  have a := (h.qb.scale (c := 2) (by decide))
  have b := (hp.mul hw).scale (c := 2 ^ (done.length + 1)) (Nat.pow_pos (by decide))
  have e1 : 96 * 2 ^ done.length * 2 = 96 * 2 ^ (done.length + 1) := by rw [Nat.pow_succ]; omega
  rw [e1] at a
  have c := a.add b (Nat.mul_pos (by decide) (Nat.pow_pos (by decide)))
  refine c.mono ?_
  rw [Nat.pow_succ]
  generalize 2 ^ done.length = P
  generalize done.length = j
  grind
theorem RI.halve {done : List Rat} {k q p w0 : Rat} {f : List (Rat × Rat)} (h : RI done k q f) (hd : done.length ≤ 2) (hp : Bd 48 528 p) (hw : 0 < w0) (h1 : done = [] → 0 < p) (m0 : q + p * w0 ≤ 0) :
    p < 0 ∧ RI (done ++ [p]) (k + q / (-2 * p)) (q + p * (q / (-2 * p))) (f ++ [(k + q / (-2 * p), q + p * (q / (-2 * p)))]) := by
  have dn : done ≠ [] := fun z => by
    have a := h.q1 z
    have b := Rat.mul_pos (h1 z) hw
    grind
  have q0 := h.q0 dn
  have p0 : p < 0 := by
    by_cases z : 0 ≤ p
    · have := Rat.mul_nonneg z (show 0 ≤ w0 by grind)
      grind
    · grind
  have e : q + p * (q / (-2 * p)) = q * Rat.divInt 1 2 := by
    have hd : Rat.divInt 1 2 = 1 / 2 := by decide +kernel
    rw [hd]
    have : (-2 * p) ≠ 0 := by grind
    grind
  have w1 : 0 < q / (-2 * p) := by
    rw [Rat.div_def]
    exact Rat.mul_pos q0 (Rat.inv_pos.mpr (by grind))
  have half : (0 : Rat) < Rat.divInt 1 2 := divInt_pos (by decide) (by decide)
  have qn := h.nd (by omega)
  have pb : Bd 48 1056 (-2 * p) := by
    obtain ⟨n, e, hn⟩ := hp
    refine ⟨-2 * n, ?_, by omega⟩
    rw [e]
    have : (-2 : Rat) = Rat.divInt (-2) 1 := by decide +kernel
    rw [this, Rat.divInt_mul_divInt, Int.one_mul]
  have pn := pb.nd (k := 11) (m := 6) (by decide) (by decide) (by decide)
  have wz := nd_div (a := q) (b := -2 * p) (by grind)
  refine ⟨p0, h.step hd w1 (by rw [e]; exact Rat.mul_pos q0 half) (by omega) (by omega) ?_⟩
  rw [e]
  have a := h.qb.mul (show Bd 2 1 (Rat.divInt 1 2) from ⟨1, rfl, by decide⟩)
  have e1 : 96 * 2 ^ done.length * 2 = 96 * 2 ^ (done.length + 1) := by rw [Nat.pow_succ]; omega
  rw [e1] at a
  refine a.mono ?_
  rw [Nat.pow_succ]
  generalize 2 ^ done.length = P
  generalize done.length = j
  grind
/-- the road behind the last slope -/
theorem RI.end {ps : List Rat} {b k q : Rat} {f : List (Rat × Rat)} (hp : Pcs (ps ++ [b])) (h : RI ps k q f) : RoadOk (f ++ [(k - q / b, 0)]) := by
  have l1 := hp.len
  have l2 := hp.len2
  simp only [List.length_append, List.length_cons, List.length_nil] at l1 l2
  have pne : ps ≠ [] := by
    rintro rfl
    simp at l1
  have q0 := h.q0 pne
  have b0 : b < 0 := by
    have := hp.lst
    rw [List.getLastD_eq_getLast?] at this
    simpa using this
  have bb := hp.bd b (by simp)
  have bn := bb.nd (k := 10) (m := 6) (by decide) (by decide) (by decide)
  have d0 : 0 < - (q / b) := by
    have : 0 < q / (-b) := by
      rw [Rat.div_def]
      exact Rat.mul_pos q0 (Rat.inv_pos.mpr (by grind))
    have e : q / (-b) = -(q / b) := by grind
    grind
  have e : slope ((k, q), (k - q / b, 0)) = b := by
    unfold slope
    simp only
    grind
  have es := slopes_snoc (x := (k - q / b, (0 : Rat))) h.last
  rw [e, h.sl] at es
  have fl : f.length = ps.length + 1 := by
    have := congrArg List.length h.sl
    unfold slopes at this
    rw [List.length_map, prs_length] at this
    have := List.length_pos_iff.mpr h.ne
    omega
  have qn := h.nd (by omega)
  have w1 := nd_div (a := q) (b := b) (by grind)
  have w2 := nd_sub k (q / b)
  have k1 := h.kn
  have k2 := h.kd
  refine ⟨⟨by simp; omega, by simp; omega, ?_, by simp, ?_, ?_, ?_⟩, ?_, ?_⟩
  · have := h.hd
    cases hf : f with
    | nil => exact absurd hf h.ne
    | cons c l => rw [hf] at this; exact this
  · intro c hc
    rw [tail_snoc h.ne] at hc
    simp at hc
    exact h.pos c hc
  · intro x hx
    rw [prs_snoc _ _ _ h.last] at hx
    rcases List.mem_append.mp hx with hx | hx
    · exact h.inc x hx
    · rw [List.mem_singleton.mp hx]
      grind
  · rw [es]
    exact hp.dec
  · intro c hc
    rcases List.mem_append.mp hc with hc | hc
    · have := h.sz c hc
      omega
    · rw [List.mem_singleton.mp hc]
      have z : lq 0 = 1 := by decide
      unfold lc
      simp only [z]
      rw [lq_nd]
      omega
  · rw [es]
    intro s hs
    have := (hp.bd s hs).lq (k := 10) (m := 6) (by decide) (by decide) (by decide)
    omega
end Mp

end

section
namespace Mp
open PySem PySem.Spec PyProof.Rows L2

/-! ### long roads -/
theorem prs_range : ∀ m : Nat, prs (List.range (m + 1)) = (List.range m).map fun k => (k, k + 1)
  | 0 => rfl
  | m + 1 => by
    rw [List.range_succ, prs_snoc _ m _ (by rw [List.range_succ]; simp), prs_range m, List.range_succ (n := m), List.map_append]
    rfl
theorem slopes_map {α : Type} (g : α → Rat × Rat) (l : List α) : slopes (l.map g) = (prs l).map fun p => slope (g p.1, g p.2) := by
  unfold slopes
  rw [prs_map, List.map_map]
  rfl
theorem cast_i (i : Int) : Rat.divInt i 1 = (i : Rat) := by
  show Rat.divInt i ((1 : Nat) : Int) = _
  rw [Rat.divInt_ofNat]
  simp [Rat.mkRat_one]
def lgC (m : Nat) (w t : Rat) (k : Nat) : Rat × Rat := (w * ((k : Nat) : Rat), t * (((k : Nat) : Rat) * ((m : Rat) - ((k : Nat) : Rat))))
/-- m + 1 corners -/
def lgL (m : Nat) (w t : Rat) : List (Rat × Rat) := (List.range (m + 1)).map (lgC m w t)
theorem lg_slope {m k : Nat} {w t : Rat} (hw : 0 < w) : slope (lgC m w t k, lgC m w t (k + 1)) = t * ((m : Rat) - 1 - 2 * ((k : Nat) : Rat)) / w := by
  unfold slope lgC
  simp only
  have e : ((k + 1 : Nat) : Rat) = (k : Rat) + 1 := by simp
  rw [e]
  have hn : w * ((k : Rat) + 1) - w * (k : Rat) ≠ 0 := by grind
  grind
theorem lg_road {m : Nat} {w t : Rat} (h1 : 4 ≤ m) (h2 : m ≤ 11) (hw : 0 < w) (ht : 0 < t) (wb : Bd 2 8 w) (tb : Bd 2 8 t) : RoadOk (lgL m w t) := by
  have cast_lt : ∀ a b : Nat, a < b → (a : Rat) < (b : Rat) := fun a b h => by exact_mod_cast h
  have cast_le : ∀ a b : Nat, a ≤ b → (a : Rat) ≤ (b : Rat) := fun a b h => by exact_mod_cast h
  have sl : slopes (lgL m w t) = (List.range m).map fun k => t * ((m : Rat) - 1 - 2 * ((k : Nat) : Rat)) / w := by
    unfold lgL
    rw [slopes_map, prs_range, List.map_map]
    apply List.map_congr_left
    intro k _
    exact lg_slope hw
  have szk : ∀ k : Nat, k ≤ 11 → Bd 1 11 ((k : Nat) : Rat) := fun k hk => ⟨k, by rw [Rat.divInt_ofNat]; simp [Rat.mkRat_one]; rfl, by omega⟩
  have szc : ∀ c ∈ lgL m w t, lc c ≤ 22 := fun c hc => by
    obtain ⟨k, hk, rfl⟩ := List.mem_map.mp hc
    have hk := List.mem_range.mp hk
    have a1 := wb.mul (szk k (by omega))
    have a2 := (szk m (by omega)).sub (szk k (by omega)) (by decide)
    have a3 := (szk k (by omega)).mul a2
    have a4 := tb.mul a3
    have b1 := a1.lq (k := 7) (m := 2) (by decide) (by decide) (by decide)
    have b2 := a4.lq (k := 11) (m := 2) (by decide) (by decide) (by decide)
    unfold lc lgC
    simp only
    omega
  have ord : ∀ p ∈ prs (lgL m w t), p.1.1 < p.2.1 := fun p hp => by
    unfold lgL at hp
    rw [prs_map, prs_range, List.map_map] at hp
    obtain ⟨k, _, rfl⟩ := List.mem_map.mp hp
    unfold lgC
    simp only [Function.comp]
    exact Rat.mul_lt_mul_of_pos_left (cast_lt _ _ (by omega)) hw
  refine ⟨⟨?_, ?_, ?_, ?_, ?_, ord, ?_⟩, fun c hc => by have := szc c hc; omega, ?_⟩
  · unfold lgL; simp; omega
  · unfold lgL; simp; omega
  · unfold lgL
    rw [List.head?_map, List.range_succ_eq_map]
    simp [lgC]
  · unfold lgL
    rw [List.range_succ, List.map_append]
    simp [lgC]
    grind
  · intro c hc
    unfold lgL at hc
    rw [List.range_succ_eq_map, List.map_cons, List.tail_cons] at hc
    have hm : m = m - 1 + 1 := by omega
    rw [hm, List.range_succ, List.map_append, List.map_append] at hc
    simp at hc
    obtain ⟨k, hk, rfl⟩ := hc
    unfold lgC
    simp only
    have k1 : (0 : Rat) < ((k + 1 : Nat) : Rat) := cast_lt 0 (k + 1) (by omega)
    have k2 : ((k + 1 : Nat) : Rat) < (m : Rat) := cast_lt _ _ (by omega)
    exact Rat.mul_pos ht (Rat.mul_pos k1 (by grind))
  · intro p hp
    rw [sl, prs_map] at hp
    have hm : m = m - 1 + 1 := by omega
    rw [hm, prs_range, List.map_map] at hp
    obtain ⟨k, hk, rfl⟩ := List.mem_map.mp hp
    simp only [Function.comp]
    have i0 : 0 < w⁻¹ := Rat.inv_pos.mpr hw
    have e : ((k + 1 : Nat) : Rat) = (k : Rat) + 1 := by simp
    rw [Rat.div_def, Rat.div_def, e]
    exact Rat.mul_lt_mul_of_pos_right (Rat.mul_lt_mul_of_pos_left (by grind) ht) i0
  · intro s hs
    rw [sl] at hs
    obtain ⟨k, hk, rfl⟩ := List.mem_map.mp hs
    have hk := List.mem_range.mp hk
    have a1 := ((szk m (by omega)).sub (szk 1 (by omega)) (by decide)).sub (show Bd 1 22 (2 * ((k : Nat) : Rat)) from ⟨2 * (k : Nat), by show _ = Rat.divInt (2 * ((k : Nat) : Int)) 1; rw [cast_i, Rat.intCast_mul, Rat.intCast_natCast]; rfl, by omega⟩) (by decide)
    have a2 := tb.mul a1
    have a3 := a2.nd (k := 9) (m := 2) (by decide) (by decide) (by decide)
    have b1 := wb.nd (k := 4) (m := 2) (by decide) (by decide) (by decide)
    have c1 := nd_div (a := t * ((m : Rat) - ((1 : Nat) : Rat) - 2 * ((k : Nat) : Rat))) (b := w) (by grind)
    have e1 : ((1 : Nat) : Rat) = 1 := rfl
    rw [e1] at c1 a3
    rw [lq_nd]
    omega
theorem cast_k (k : Nat) : (U.mk (k : Nat) 1 (by decide)).val = ((k : Nat) : Rat) := by
  show Rat.divInt (k : Nat) 1 = _
  rw [cast_i]
  exact Rat.intCast_natCast k
theorem cast_e (k j : Nat) : (U.mk ((k : Nat) * (((j : Nat) : Int) - (k : Nat))) 1 (by decide)).val = ((k : Nat) : Rat) * ((j : Rat) - ((k : Nat) : Rat)) := by
  show Rat.divInt ((k : Nat) * (((j : Nat) : Int) - (k : Nat))) 1 = _
  rw [cast_i, Rat.intCast_mul, Rat.intCast_sub, Rat.intCast_natCast, Rat.intCast_natCast]
end Mp

end

section
namespace Mp
open PySem PySem.Spec PyProof.Rows L2

/-! ### how long texts of data are -/
def okS (s : Str) (n : Nat) : Prop := s.length ≤ n ∧ PyData.strOk s = true
theorem okS.mono {s : Str} {n m : Nat} (h : okS s n) (hm : n ≤ m) : okS s m := ⟨Nat.le_trans h.1 hm, h.2⟩
theorem okS_of (t : String) : okS (Str.ofString t) t.length := by
  refine ⟨by rw [PySem.ofString_length]; exact Nat.le_refl _, ?_⟩
  unfold PyData.strOk
  rw [← Array.all_toList, signs_ofString, List.all_map, List.all_eq_true]
  intro c _
  simp only [Function.comp]
  exact decide_eq_true (by
    have := c.valid
    unfold UInt32.isValidChar Nat.isValidChar at this
    show c.val.toNat < _
    omega)
theorem okS.app {a b : Str} {n m : Nat} (ha : okS a n) (hb : okS b m) : okS (a ++ b) (n + m) := by
  refine ⟨by rw [Str.length_append]; have := ha.1; have := hb.1; omega, ?_⟩
  have h1 := ha.2
  have h2 := hb.2
  unfold PyData.strOk at *
  rw [Str.cps_append, Array.all_append, h1, h2]
  rfl
theorem okS_join {m : Nat} : ∀ (ts : List Str), (∀ t ∈ ts, okS t m) → okS (Str.join ", " ts) (ts.length * (m + 2))
  | [], _ => (okS_of "").mono (by simp)
  | [x], h => (h x (by simp)).mono (by simp)
  | x :: y :: r, h => by
    rw [join_cons_cons]
    have h1 := h x (by simp)
    have h2 := okS_of ", "
    have ih := okS_join (y :: r) fun t ht => h t (List.mem_cons_of_mem _ ht)
    refine ((h1.app h2).app ih).mono ?_
    have : ", ".length = 2 := rfl
    rw [this, List.length_cons (a := x), Nat.add_mul]
    omega
theorem okS_tup {m : Nat} {ts : List Str} (h : ∀ t ∈ ts, okS t m) : okS (tupleText ts) (ts.length * (m + 2) + 3) := by
  unfold tupleText
  have e : okS ((if ts.length == 1 then ",)" else ")" : String) : Str) 2 := by
    split
    · exact (okS_of ",)").mono (by decide)
    · exact (okS_of ")").mono (by decide)
  refine (((okS_of "(").app (okS_join ts h)).app e).mono ?_
  have : "(".length = 1 := rfl
  rw [this]
  omega
theorem shownAll_eq : ∀ l : List D, PyData.shownAll l = l.map PyData.shown
  | [] => by simp [PyData.shownAll]
  | d :: l => by simp [PyData.shownAll, shownAll_eq l]
theorem okS_tuple {m : Nat} {l : List D} (h : ∀ d ∈ l, okS d.shown m) : okS (PyData.tuple l).shown (l.length * (m + 2) + 3) := by
  have e : (PyData.tuple l).shown = tupleText (l.map PyData.shown) := by
    rw [← shownAll_eq]
    simp [PyData.shown]
  rw [e]
  have := okS_tup (m := m) (ts := l.map PyData.shown) fun t ht => by
    obtain ⟨d, hd, rfl⟩ := List.mem_map.mp ht
    exact h d hd
  rwa [List.length_map] at this
theorem okS_int {i : Int} (h : lg i ≤ 1900) : okS (PyData.int i).shown 1921 := by
  have e : (PyData.int i).shown = Str.ofString (toString i) := by simp [PyData.shown]
  rw [e]
  have hl : i.natAbs.log2 < 1920 := by
    unfold lg at h
    split at h
    · subst i
      decide
    · omega
  exact (okS_of _).mono (int_text_length_le (by decide) hl)
theorem showable_int {i : Int} (h : lg i ≤ 1900) : (PyData.int i).showable = true := by
  unfold lg at h
  split at h
  · subst i
    decide
  · simp [PyData.showable]
    omega
theorem okS_fr {q : Rat} (h1 : ln q ≤ 1900) (h2 : ld q ≤ 1900) : okS (fr q).shown 4000 := by
  refine (okS_tuple (m := 1921) fun d hd => ?_).mono (by simp)
  rcases List.mem_cons.mp hd with rfl | hd
  · exact okS_int h1
  · rw [List.mem_singleton.mp hd]
    exact okS_int h2
theorem showable_fr {q : Rat} (h1 : ln q ≤ 1900) (h2 : ld q ≤ 1900) : (fr q).showable = true := by
  unfold fr
  simp only [PyData.showable, PyData.showableAll, Bool.and_eq_true]
  exact ⟨showable_int h1, showable_int h2, trivial⟩
theorem repr_of {d : D} {n : Nat} (h1 : okS d.shown n) (h2 : n ≤ 16000000) (h3 : d.showable = true) (h4 : d.hasDict = false) (h5 : d.depth ≤ 100) : biD .repr [d] = some (.val (.str d.shown)) ∧ eqD (.str d.shown) (.str d.shown) = some true := by
  constructor
  · show ned (d.showable && decide (d.depth ≤ 100) && okLen d.shown.length) _ = _
    have : okLen d.shown.length = true := decide_eq_true (by rw [sizeLine_eq]; have := h1.1; omega)
    rw [h3, decide_eq_true h5, this]
    rfl
  · rw [eq_of (by simp [SeqAt.shaped, PyData.canLay0, PyData.depth, h1.2]) (by simp [SeqAt.shaped, PyData.canLay0, PyData.depth, h1.2])]
    simp [PyData.eqv]
theorem repr_fr {q : Rat} (h1 : ln q ≤ 1900) (h2 : ld q ≤ 1900) : biD .repr [fr q] = some (.val (.str (fr q).shown)) ∧ eqD (.str (fr q).shown) (.str (fr q).shown) = some true :=
  repr_of (okS_fr h1 h2) (by decide) (showable_fr h1 h2) (by simp [fr, PyData.hasDict, PyData.hasDictAll]) (by simp [fr, PyData.depth, PyData.depthAll])
theorem repr_KD {L : List (Rat × Rat)} (hl : L.length ≤ 100) (h : ∀ c ∈ L, lc c ≤ 1900) : biD .repr [KD L] = some (.val (.str (KD L).shown)) ∧ eqD (.str (KD L).shown) (.str (KD L).shown) = some true := by
  have sz : ∀ c ∈ L, ln c.1 ≤ 1900 ∧ ld c.1 ≤ 1900 ∧ ln c.2 ≤ 1900 ∧ ld c.2 ≤ 1900 := fun c hc => by
    have := h c hc
    unfold lc at this
    rw [lq_nd, lq_nd] at this
    omega
  have oc : ∀ c ∈ L, okS (cn c).shown 8010 := fun c hc => by
    obtain ⟨a1, a2, a3, a4⟩ := sz c hc
    refine (okS_tuple (m := 4000) fun d hd => ?_).mono (by simp)
    rcases List.mem_cons.mp hd with rfl | hd
    · exact okS_fr a1 a2
    · rw [List.mem_singleton.mp hd]
      exact okS_fr a3 a4
  refine repr_of (n := 1000000) ?_ (by decide) ?_ ?_ ?_
  · refine (okS_tuple (m := 8010) fun d hd => ?_).mono ?_
    · obtain ⟨c, hc, rfl⟩ := List.mem_map.mp hd
      exact oc c hc
    · rw [List.length_map]
      have := Nat.mul_le_mul_right 8012 hl
      omega
  · show (PyData.tuple (L.map cn)).showable = true
    simp only [PyData.showable]
    clear oc hl h
    induction L with
    | nil => rfl
    | cons c L ih =>
      obtain ⟨a1, a2, a3, a4⟩ := sz c (by simp)
      rw [List.map_cons]
      show ((cn c).showable && PyData.showableAll (L.map cn)) = true
      rw [ih fun d hd => sz d (List.mem_cons_of_mem _ hd), Bool.and_true]
      unfold cn
      simp only [PyData.showable, PyData.showableAll, Bool.and_eq_true]
      exact ⟨showable_fr a1 a2, showable_fr a3 a4, trivial⟩
  · show (PyData.tuple (L.map cn)).hasDict = false
    simp only [PyData.hasDict]
    clear oc hl h sz
    induction L with
    | nil => rfl
    | cons c L ih =>
      rw [List.map_cons]
      show ((cn c).hasDict || PyData.hasDictAll (L.map cn)) = false
      rw [ih]
      simp [cn, fr, PyData.hasDict, PyData.hasDictAll]
  · show (PyData.tuple (L.map cn)).depth ≤ 100
    have : PyData.depthAll (L.map cn) ≤ 10 := by
      clear oc hl h sz
      induction L with
      | nil => simp [PyData.depthAll]
      | cons c L ih =>
        rw [List.map_cons]
        simp [PyData.depthAll, cn, fr, PyData.depth] at ih ⊢
        omega
    simp only [PyData.depth]
    omega
end Mp

end

section
namespace Mp
open PySem PySem.Spec PyProof.Rows L2

/-! ### tolls of a kind for a unit of time -/
def R1 (L : List (Rat × Rat)) (v : Rat) : Rat := tollR L v 1
theorem VK.fst {L : List (Rat × Rat)} (h : VK L) : ∃ c l, L = (0, 0) :: c :: l := by
  match L, h.hd, h.len with
  | a :: c :: l, e, _ => exact ⟨c, l, by rw [List.head?_cons] at e; rw [Option.some.inj e]⟩
theorem two_last {α : Type} : ∀ {L : List α}, 2 ≤ L.length → ∃ a d e, L = a ++ [d, e]
  | [], h => by simp at h
  | [_], h => by simp at h
  | [d, e], _ => ⟨[], d, e, rfl⟩
  | x :: y :: z :: l, _ => by
    obtain ⟨a, d, e, h⟩ := two_last (L := y :: z :: l) (by simp)
    exact ⟨x :: a, d, e, by rw [h]; rfl⟩
theorem VK.lst2 {L : List (Rat × Rat)} (h : VK L) : ∃ a d, L = a ++ [d, (full L, 0)] := by
  obtain ⟨a, d, e, hL⟩ := two_last (L := L) (by have := h.len; omega)
  refine ⟨a, d, ?_⟩
  have h1 := h.lst
  have h2 : full L = e.1 := by rw [hL]; simp [full]
  rw [hL] at h1
  simp at h1
  rw [h2, ← h1]
  exact hL
theorem prs_last {α : Type} : ∀ (a : List α) (d e : α), (d, e) ∈ prs (a ++ [d, e])
  | [], d, e => by simp
  | [x], d, e => by simp
  | x :: y :: l, d, e => by
    have := prs_last (y :: l) d e
    simp only [List.cons_append] at this ⊢
    rw [prs_cons]
    exact List.mem_cons_of_mem _ this
theorem slopes_last (a : List (Rat × Rat)) (d e : Rat × Rat) : (slopes (a ++ [d, e])).getLastD 0 = slope (d, e) := by
  have := slopes_snoc (L := a ++ [d]) (z := d) (x := e) (by simp)
  have e1 : a ++ [d] ++ [e] = a ++ [d, e] := by simp
  rw [e1] at this
  rw [this]
  simp
theorem ixD_m2 (a : List D) (d e : D) : ixD (a ++ [d, e]) (-2) = some d := by
  unfold ixD L2.ixN
  have hl : (a ++ [d, e]).length = a.length + 2 := by simp
  have h1 : ¬ (0 : Int) ≤ -2 := by decide
  have h2 : -(((a ++ [d, e]).length : Nat) : Int) ≤ -2 := by
    rw [hl]
    omega
  rw [if_neg h1, if_pos h2]
  have h3 : ((-2 : Int) + (((a ++ [d, e]).length : Nat) : Int)).toNat = a.length := by
    rw [hl]
    omega
  show (a ++ [d, e])[((-2 : Int) + (((a ++ [d, e]).length : Nat) : Int)).toNat]? = _
  rw [h3]
  simp
theorem mul_one_le {v k q : Rat} (hk : 0 < k) (h : v ≤ q / k) : k * v ≤ q := by
  have := Rat.mul_le_mul_of_nonneg_left h (show 0 ≤ k by grind)
  have e : k * (q / k) = q := by
    have : k ≠ 0 := by grind
    grind
  grind
theorem le_mul_one {v k q : Rat} (hk : 0 < k) (h : q / k ≤ v) : q ≤ k * v := by
  have := Rat.mul_le_mul_of_nonneg_left h (show 0 ≤ k by grind)
  have e : k * (q / k) = q := by
    have : k ≠ 0 := by grind
    grind
  grind
theorem VK.in_first {c : Rat × Rat} {l : List (Rat × Rat)} (h : VK ((0, 0) :: c :: l)) {v : Rat} (hv : v ≤ (slopes ((0, 0) :: c :: l)).headD 0) : ¬ c.2 * 1 < c.1 * v := by
  have hi := h.inc ((0, 0), c) (by simp)
  have e : (slopes ((0, 0) :: c :: l)).headD 0 = (c.2 - 0) / (c.1 - 0) := rfl
  rw [e] at hv
  have := mul_one_le (by grind) hv
  grind
theorem VK.in_last {a : List (Rat × Rat)} {d : Rat × Rat} {f : Rat} (h : VK (a ++ [d, (f, 0)])) {v : Rat} (hv : (slopes (a ++ [d, (f, 0)])).getLastD 0 ≤ v) : ¬ (f - d.1) * v < (0 - d.2) * 1 := by
  have hi := h.inc (d, (f, 0)) (prs_last a d (f, 0))
  rw [slopes_last] at hv
  have e : slope (d, (f, 0)) = (0 - d.2) / (f - d.1) := rfl
  rw [e] at hv
  have := le_mul_one (by grind) hv
  grind
/-- corners that are no better change nothing: the loop's first turn -/
theorem R1_cons (c : Rat × Rat) (l : List (Rat × Rat)) (v : Rat) : R1 ((0, 0) :: c :: l) v = (c :: l).foldl (tlR v 1) 0 := by
  unfold R1 tollR
  rw [List.foldl_cons]
  have : tlR v 1 0 (0, 0) = 0 := by
    unfold tlR
    grind
  rw [this]
/-- at a slope of a piece -/
theorem R1_at {L : List (Rat × Rat)} (h : VK L) {p : (Rat × Rat) × (Rat × Rat)} (hp : p ∈ prs L) : R1 L (slope p) = p.1.2 - p.1.1 * slope p := by
  have g := tollR_ge (far := slope p) (lasts := 1) p.1 (mem_prs hp).1
  have ab : ∀ c ∈ L, c.2 * 1 - c.1 * slope p ≤ p.1.2 - p.1.1 * slope p := fun c hc => by
    have := h.cc.above p hp c hc
    grind
  obtain ⟨c, l, rfl⟩ := h.fst
  have z : 0 ≤ p.1.2 - p.1.1 * slope p := by
    have := ab (0, 0) (by simp)
    grind
  have := tollR_le (L := (0, 0) :: c :: l) (far := slope p) (lasts := 1) z ab
  unfold R1
  grind
theorem R1_size {L : List (Rat × Rat)} (h : VK L) {k m : Nat} (hs : ∀ c ∈ L, lc c ≤ k) {v : Rat} (hv : lq v ≤ m) : lq (R1 L v) ≤ 4 * k + 2 * m + 4 := by
  have go : ∀ (l : List (Rat × Rat)) (b : Rat), (∀ c ∈ l, lc c ≤ k) → lq b ≤ 4 * k + 2 * m + 4 → lq (l.foldl (tlR v 1) b) ≤ 4 * k + 2 * m + 4 := by
    intro l
    induction l with
    | nil => intro b _ hb; exact hb
    | cons c l ih =>
      intro b hc hb
      rw [List.foldl_cons]
      refine ih _ (fun d hd => hc d (List.mem_cons_of_mem _ hd)) ?_
      unfold tlR
      split
      · have h1 := lq_sub (c.2 * 1) (c.1 * v)
        have h2 := lq_mul c.1 v
        have e : c.2 * 1 = c.2 := Rat.mul_one _
        have := hc c (by simp)
        rw [e] at h1 ⊢
        unfold lc at this
        omega
      · exact hb
  exact go L 0 hs (by have : lq 0 = 1 := by decide
                      omega)
end Mp

end

section
namespace Mp
open PySem PySem.Spec PyProof.Rows L2

theorem inc_ends : ∀ (l : List (Rat × Rat)), (∀ p ∈ prs l, p.1.1 < p.2.1) → ∀ c ∈ l, (l.headD (0, 0)).1 ≤ c.1 ∧ c.1 ≤ full l
  | [], _, c, h => by cases h
  | [a], _, c, h => by
    rw [List.mem_singleton.mp h]
    exact ⟨Rat.le_refl, Rat.le_refl⟩
  | a :: b :: l, hi, c, h => by
    have ih := inc_ends (b :: l) fun p hp => hi p (by rw [prs_cons]; exact List.mem_cons_of_mem _ hp)
    have h1 := hi (a, b) (by simp)
    have ef : full (a :: b :: l) = full (b :: l) := by simp [full]
    have eb := ih b (by simp)
    rw [ef]
    simp only at h1
    rcases List.mem_cons.mp h with rfl | h
    · exact ⟨Rat.le_refl, by grind⟩
    · have := ih c h
      simp only [List.headD_cons] at this ⊢
      exact ⟨by grind, this.2⟩
theorem VK.range {L : List (Rat × Rat)} (h : VK L) : ∀ c ∈ L, 0 ≤ c.1 ∧ c.1 ≤ full L := fun c hc => by
  have := inc_ends L h.inc c hc
  obtain ⟨d, l, e⟩ := h.fst
  rw [e] at this ⊢
  exact this
theorem VK.full_pos {L : List (Rat × Rat)} (h : VK L) : 0 ≤ full L := by
  obtain ⟨c, l, e⟩ := h.fst
  exact (h.range (0, 0) (by rw [e]; simp)).2
theorem lq_pos (q : Rat) : 1 ≤ lq q := by
  unfold lq
  have : 1 ≤ lg (q.den : Nat) := by
    have := q.den_nz
    unfold lg
    split <;> omega
  omega
theorem share_le {x : Rat} {a b : Int} (h0 : 0 ≤ x) (ha : 0 ≤ a) (hab : a ≤ b) (hb : 0 < b) : 0 ≤ x * Rat.divInt a b ∧ x * Rat.divInt a b ≤ x := by
  have h1 : 0 ≤ Rat.divInt a b := by
    rw [Rat.divInt_nonneg_iff_of_pos_right hb]
    exact ha
  have h2 : Rat.divInt a b ≤ 1 := by
    have : 0 ≤ Rat.divInt (b - a) b := by
      rw [Rat.divInt_nonneg_iff_of_pos_right hb]
      omega
    have e : Rat.divInt (b - a) b + Rat.divInt a b = 1 := by
      rw [Rat.divInt_add_divInt _ _ (by omega) (by omega), ← Int.add_mul, Rat.divInt_mul_right (by omega)]
      have : b - a + a = b := by omega
      rw [this, Rat.divInt_self' (by omega)]
    grind
  refine ⟨Rat.mul_nonneg h0 h1, ?_⟩
  have := Rat.mul_le_mul_of_nonneg_left h2 h0
  grind
end Mp

end

section
namespace Mp
open PySem PySem.Spec PyProof.Rows L2
@[simp] theorem y_ins (S : Sc) (x : Sv) (r : En) (p pc pa pn : Pos) (i : Nat) (k e : E) : evS S (.ins p pc pa pn i k e) (x :: r) = (pkR ((x :: r)[i]?) i (x :: r)).bd fun p => (dsOf [evE S k, evE S e] p.2).bd fun q => (Res.gt (insX q.1 q.2[i]?)).bd fun z => .ok (.nx, q.2.set i (.own z)) := rfl
@[simp] theorem insX_own (n : Int) (d : D) (ds : List D) : insX [.int n, d] (some (.own ds)) = insL ds n d := rfl
theorem insL_nat {ds : List D} {k : Nat} {d : D} (h : k ≤ ds.length) (hl : ds.length ≤ 4000) : insL ds (k : Nat) d = some (ds.take k ++ d :: ds.drop k) := by
  unfold insL
  have h1 : okLen (ds.length + 1) = true := decide_eq_true (by rw [sizeLine_eq]; omega)
  have h2 : (0 : Int) ≤ (k : Nat) ∧ ((k : Nat) : Int) ≤ ds.length := by omega
  rw [h1, decide_eq_true h2]
  rfl
/-- what is kept of the items done: the head is the least -/
structure Least (l m : List Rat) : Prop where
  len : m.length ≤ l.length
  sub : ∀ x ∈ m, x ∈ l
  ne : l ≠ [] → m ≠ []
  le : ∀ x ∈ l, m.headD 0 ≤ x
theorem Least.keep {l m : List Rat} {x : Rat} (h : Least l m) (hm : m ≠ []) (hx : m.headD 0 ≤ x) : Least (l ++ [x]) m := by
  refine ⟨?_, ?_, fun _ => hm, ?_⟩
  · have := h.len
    simp
    omega
  · intro y hy
    exact List.mem_append_left _ (h.sub y hy)
  · intro y hy
    rcases List.mem_append.mp hy with hy | hy
    · exact h.le y hy
    · rw [List.mem_singleton.mp hy]
      exact hx
theorem Least.ins {l m : List Rat} {x : Rat} {k : Nat} (h : Least l m) (hk : k ≤ m.length) (h1 : ∀ j, j < k → m.getD j 0 < x) (h2 : k < m.length → ¬ m.getD k 0 < x) : Least (l ++ [x]) (m.take k ++ x :: m.drop k) := by
  refine ⟨?_, ?_, fun _ => by simp, ?_⟩
  · have := h.len
    simp
    omega
  · intro y hy
    rcases List.mem_append.mp hy with hy | hy
    · exact List.mem_append_left _ (h.sub y (List.mem_of_mem_take hy))
    · rcases List.mem_cons.mp hy with rfl | hy
      · simp
      · exact List.mem_append_left _ (h.sub y (List.mem_of_mem_drop hy))
  · cases k with
    | zero =>
      simp only [List.take_zero, List.nil_append, List.headD_cons]
      intro y hy
      rcases List.mem_append.mp hy with hy | hy
      · cases m with
        | nil => exact absurd rfl (h.ne (List.ne_nil_of_mem hy))
        | cons a m =>
          have := h2 (by simp)
          have := h.le y hy
          simp at *
          grind
      · rw [List.mem_singleton.mp hy]
        exact Rat.le_refl
    | succ k =>
      cases m with
      | nil => simp at hk
      | cons a m =>
        simp only [List.take_succ_cons, List.cons_append, List.headD_cons]
        intro y hy
        rcases List.mem_append.mp hy with hy | hy
        · have := h.le y hy
          exact this
        · rw [List.mem_singleton.mp hy]
          have := h1 0 (by omega)
          simp at this
          grind
end Mp

end

section
namespace Mp
open PySem PySem.Spec PyProof.Rows L2

theorem slopes_length (L : List (Rat × Rat)) : (slopes L).length = L.length - 1 := by
  unfold slopes
  rw [List.length_map, prs_length]
theorem prs_at {α : Type} {L : List α} {k : Nat} (h : k + 1 < L.length) : (L[k], L[k + 1]) ∈ prs L := by
  have hk : k < (prs L).length := by rw [prs_length]; omega
  have e : (prs L)[k] = (L[k], L[k + 1]) := by
    simp [prs]
  rw [← e]
  exact List.getElem_mem hk
theorem slopes_at {L : List (Rat × Rat)} {k : Nat} (h : k + 1 < L.length) : (slopes L)[k]'(by rw [slopes_length]; omega) = slope (L[k], L[k + 1]) := by
  simp [slopes, prs]
/-- the toll at a piece's slope, from its second end -/
theorem R1_at2 {L : List (Rat × Rat)} (h : VK L) {p : (Rat × Rat) × (Rat × Rat)} (hp : p ∈ prs L) : R1 L (slope p) = p.2.2 - p.2.1 * slope p := by
  rw [R1_at h hp]
  have := slope_eq (h.inc p hp)
  have e : slope (p.1, p.2) = slope p := rfl
  rw [e] at this
  grind
/-- between two neighbouring slopes -/
theorem R1_mid {L : List (Rat × Rat)} (h : VK L) {c d e : Rat × Rat} (h1 : (c, d) ∈ prs L) (h2 : (d, e) ∈ prs L) {t : Rat} (t0 : 0 ≤ t) (t1 : t ≤ 1) :
    R1 L (slope (c, d) + t * (slope (d, e) - slope (c, d))) = R1 L (slope (c, d)) + t * (R1 L (slope (d, e)) - R1 L (slope (c, d))) := by
  have a1 := R1_at2 h h1
  have a2 := R1_at h h2
  rw [a1, a2]
  simp only
  have b1 := h.cc.above _ h1
  have b2 := h.cc.above _ h2
  have s1 := slope_eq (h.inc _ h1)
  have md : d ∈ L := (mem_prs h1).2
  simp only at b1 b2 s1
  generalize slope (c, d) = s at *
  generalize slope (d, e) = u at *
  have g := tollR_ge (far := s + t * (u - s)) (lasts := 1) d md
  have ab : ∀ x ∈ L, x.2 * 1 - x.1 * (s + t * (u - s)) ≤ d.2 - d.1 * (s + t * (u - s)) := fun x hx => by
    have c1 := b1 x hx
    have c2 := b2 x hx
    have c3 : x.2 - x.1 * s ≤ d.2 - d.1 * s := by grind
    have c4 : x.2 - x.1 * u ≤ d.2 - d.1 * u := by grind
    have m1 := Rat.mul_le_mul_of_nonneg_left c3 (show 0 ≤ 1 - t by grind)
    have m2 := Rat.mul_le_mul_of_nonneg_left c4 t0
    grind
  have z : 0 ≤ d.2 - d.1 * (s + t * (u - s)) := by
    obtain ⟨x, l, e⟩ := h.fst
    have := ab (0, 0) (by rw [e]; simp)
    grind
  have := tollR_le (L := L) (far := s + t * (u - s)) (lasts := 1) z ab
  unfold R1
  grind
/-- the corner between two slopes -/
theorem R1_corner {L : List (Rat × Rat)} (h : VK L) {c d e : Rat × Rat} (h1 : (c, d) ∈ prs L) (h2 : (d, e) ∈ prs L) (hs : slope (d, e) < slope (c, d)) :
    (R1 L (slope (d, e)) - R1 L (slope (c, d))) / (slope (c, d) - slope (d, e)) = d.1 ∧ R1 L (slope (c, d)) + d.1 * slope (c, d) = d.2 := by
  have a1 := R1_at2 h h1
  have a2 := R1_at h h2
  rw [a1, a2]
  simp only
  generalize slope (c, d) = s at *
  generalize slope (d, e) = u at *
  have : s - u ≠ 0 := by grind
  constructor <;> grind
/-- the last corner -/
theorem R1_last {L : List (Rat × Rat)} (h : VK L) : ∃ d, (d, (full L, 0)) ∈ prs L ∧ slope (d, (full L, 0)) = (slopes L).getLastD 0 ∧ slope (d, (full L, 0)) < 0 ∧ -(R1 L (slope (d, (full L, 0))) / slope (d, (full L, 0))) = full L := by
  obtain ⟨a, d, e⟩ := h.lst2
  generalize full L = f at *
  have hp : (d, (f, 0)) ∈ prs L := by rw [e]; exact prs_last a d (f, 0)
  have hi := h.inc _ hp
  have d2 : 0 < d.2 := by
    apply h.mid
    have hl := h.len
    rw [e] at hl ⊢
    cases a with
    | nil => simp at hl
    | cons x a =>
      have : (x :: a ++ [d, (f, 0)]).tail.dropLast = a ++ [d] := by
        have : (x :: a ++ [d, (f, 0)]).tail = (a ++ [d]) ++ [(f, 0)] := by simp
        rw [this, List.dropLast_concat]
      rw [this]
      simp
  have neg : slope (d, (f, 0)) < 0 := by
    have e : slope (d, (f, 0)) = -(d.2 / (f - d.1)) := by
      unfold slope
      simp only
      grind
    have : 0 < d.2 / (f - d.1) := by
      rw [Rat.div_def]
      exact Rat.mul_pos d2 (Rat.inv_pos.mpr (by grind))
    grind
  have a2 := R1_at2 h hp
  simp only at a2
  refine ⟨d, hp, ?_, neg, ?_⟩
  · rw [e, slopes_last]
  · rw [a2]
    generalize slope (d, (f, 0)) = s at *
    have : s ≠ 0 := by grind
    grind
/-- the toll is bent upward -/
theorem R1_half {L : List (Rat × Rat)} (h : VK L) (a b : Rat) : ¬ R1 L a + Rat.divInt 1 2 * (R1 L b - R1 L a) < R1 L (a + Rat.divInt 1 2 * (b - a)) := by
  have hd : Rat.divInt 1 2 = 1 / 2 := by decide +kernel
  rw [hd]
  have g1 := tollR_ge (L := L) (far := a) (lasts := 1)
  have g2 := tollR_ge (L := L) (far := b) (lasts := 1)
  have ab : ∀ x ∈ L, x.2 * 1 - x.1 * (a + 1 / 2 * (b - a)) ≤ R1 L a + 1 / 2 * (R1 L b - R1 L a) := fun x hx => by
    have c1 := g1 x hx
    have c2 := g2 x hx
    unfold R1
    grind
  have z : 0 ≤ R1 L a + 1 / 2 * (R1 L b - R1 L a) := by
    obtain ⟨x, l, e⟩ := h.fst
    have := ab (0, 0) (by rw [e]; simp)
    grind
  have := tollR_le (L := L) (far := a + 1 / 2 * (b - a)) (lasts := 1) z ab
  unfold R1 at *
  grind
/-- the flow is the least of the sums -/
theorem flow_least {L : List (Rat × Rat)} (h : VK L) {x : Rat} (h0 : 0 ≤ x) (h1 : x ≤ full L) {m : List Rat} (hm : Least ((slopes L).map fun s => R1 L s + x * s) m) : ∃ r, m = flow L x :: r := by
  have le : ∀ s, flow L x ≤ R1 L s + x * s := fun s => by
    have := toll_ge h h0 h1 (far := s) (lasts := 1) (by decide)
    unfold R1
    grind
  obtain ⟨v, hv, e⟩ := toll_eq h h0 h1 (lasts := 1) (by decide)
  have e : flow L x = R1 L v + x * v := by
    have : v * 1 = v := Rat.mul_one v
    rw [this] at e
    unfold R1
    grind
  have mem : flow L x ∈ (slopes L).map fun s => R1 L s + x * s := by
    rw [e]
    exact List.mem_map_of_mem (f := fun s => R1 L s + x * s) hv
  have a := hm.le _ mem
  cases m with
  | nil => exact absurd rfl (hm.ne (List.ne_nil_of_mem mem))
  | cons y r =>
    obtain ⟨s, hs, ey⟩ := List.mem_map.mp (hm.sub y (by simp))
    have := le s
    simp only [List.headD_cons] at a
    exact ⟨r, by rw [show y = flow L x by grind]⟩
theorem flow_under {L : List (Rat × Rat)} (h : VK L) {x : Rat} (h0 : 0 ≤ x) (h1 : x ≤ full L) (v : Rat) : ¬ R1 L v + x * v < flow L x := by
  have := toll_ge h h0 h1 (far := v) (lasts := 1) (by decide)
  unfold R1
  grind
theorem R1_sz_at {L : List (Rat × Rat)} (h : RoadOk L) {s : Rat} (hs : s ∈ slopes L) : lq (R1 L s) ≤ 411 := by
  obtain ⟨p, hp, rfl⟩ := List.mem_map.mp hs
  have h0 := h.sp _ hs
  rw [R1_at h.vk hp]
  have h1 := h.sz _ (mem_prs hp).1
  unfold lc at h1
  have h2 := lq_mul p.1.1 (slope p)
  have h3 := lq_sub p.1.2 (p.1.1 * slope p)
  omega
theorem flow_sz {L : List (Rat × Rat)} (h : RoadOk L) {x : Rat} (h0 : 0 ≤ x) (h1 : x ≤ full L) (hx : lq x ≤ 195) : lq (flow L x) ≤ 1300 := by
  obtain ⟨v, hv, e⟩ := toll_eq h.vk h0 h1 (lasts := 1) (by decide)
  have e : flow L x = R1 L v + x * v := by
    have : v * 1 = v := Rat.mul_one v
    rw [this] at e
    unfold R1
    grind
  have a1 := R1_sz_at h hv
  have a2 := h.sp v hv
  have a3 := lq_mul x v
  have a4 := lq_add (R1 L v) (x * v)
  rw [e]
  omega
theorem range_split {J k : Nat} {done rest : List Nat} (h : List.range J = done ++ k :: rest) : k = done.length ∧ k < J := by
  have h1 := congrArg List.length h
  have h2 := congrArg (fun l : List Nat => l[done.length]?) h
  simp at h1 h2
  have : done.length < J := by omega
  simp [this] at h2
  omega
theorem small_nat {k : Nat} (h : k ≤ 1000000) : small62 (k : Nat) = true := decide_eq_true (by omega)
theorem txt_fr {q : Rat} (h : lq q ≤ 1900) : ∃ t : Str, biD .repr [fr q] = some (.val (.str t)) ∧ eqD (.str t) (.str t) = some true :=
  ⟨_, (repr_fr (by rw [lq_nd] at h; omega) (by rw [lq_nd] at h; omega)).1, (repr_fr (by rw [lq_nd] at h; omega) (by rw [lq_nd] at h; omega)).2⟩
theorem getD_fr {l : List Rat} {i : Nat} (h : i < l.length) : ∃ a ∈ l, (l.map fr).getD i .none = fr a :=
  ⟨l[i], List.getElem_mem h, by simp [List.getD, List.getElem?_eq_getElem h]⟩
theorem map_range {l : List Rat} {n : Nat} (h : l.length = n) (g : Rat → Rat) : ((List.range n).map fun k => fr (g (l.getD k 0))) = (l.map g).map fr := by
  subst h
  apply List.ext_getElem
  · simp
  · intro i h1 h2
    simp at h1 h2
    simp [List.getD, List.getElem?_eq_getElem h2]
theorem slope_end {L : List (Rat × Rat)} (h : VK L) : (slopes L).getLast? = some ((slopes L).getLastD 0) := by
  have : slopes L ≠ [] := by
    have h1 := slopes_length L
    have h2 := h.len
    intro z
    rw [z] at h1
    simp at h1
    omega
  rw [List.getLastD_eq_getLast?, List.getLast?_eq_some_getLast this]
  rfl
theorem take_end {L : List (Rat × Rat)} (h : VK L) {J : Nat} (hJ : L.length = J + 2) : L.take (J + 1) ++ [(full L, 0)] = L := by
  obtain ⟨a, d, e⟩ := h.lst2
  generalize full L = f at *
  subst e
  have : a.length = J := by simp at hJ; exact hJ
  subst this
  simp [List.take_append, List.take_of_length_le]
theorem R1_zero {L : List (Rat × Rat)} (h : VK L) : ∃ s r, slopes L = s :: r ∧ R1 L s = 0 := by
  obtain ⟨c, l, e⟩ := h.fst
  refine ⟨slope ((0, 0), c), slopes (c :: l), by rw [e]; rfl, ?_⟩
  rw [R1_at h (p := ((0, 0), c)) (by rw [e]; simp)]
  simp only
  grind
theorem txt_KD {L : List (Rat × Rat)} (h : RoadOk L) : ∃ t : Str, biD .repr [KD L] = some (.val (.str t)) ∧ eqD (.str t) (.str t) = some true := by
  have l := h.vk.len2
  have e := repr_KD (L := L) (by omega) (fun c hc => Nat.le_trans (h.sz c hc) (by decide))
  exact ⟨_, e.1, e.2⟩
theorem part_in {a b lo hi t : Rat} (t0 : 0 ≤ t) (t1 : t ≤ 1) (a1 : lo ≤ a) (a2 : a ≤ hi) (b1 : lo ≤ b) (b2 : b ≤ hi) : a + t * (b - a) ≤ hi ∧ lo ≤ a + t * (b - a) := by
  have m1 := Rat.mul_le_mul_of_nonneg_left b2 t0
  have m2 := Rat.mul_le_mul_of_nonneg_left b1 t0
  have m3 := Rat.mul_le_mul_of_nonneg_left a2 (show 0 ≤ 1 - t by grind)
  have m4 := Rat.mul_le_mul_of_nonneg_left a1 (show 0 ≤ 1 - t by grind)
  constructor <;> grind
theorem divInt_in {a b : Int} (h0 : 0 ≤ a) (hab : a ≤ b) (hb : 0 < b) : 0 ≤ Rat.divInt a b ∧ Rat.divInt a b ≤ 1 := by
  have := share_le (x := 1) (a := a) (b := b) (by decide) h0 hab hb
  rw [Rat.one_mul] at this
  exact this
theorem part_sz (a b t : Rat) (ha : lq a ≤ 20) (hb : lq b ≤ 20) (ht : lq t ≤ 10) : lq (a + t * (b - a)) ≤ 230 := by
  have h1 := lq_sub b a
  have h2 := lq_mul t (b - a)
  have h3 := lq_add a (t * (b - a))
  omega
end Mp

end

section
namespace Mp
open PySem PySem.Spec PyProof.Rows L2

/-! ### texts of data of any shape -/
/-- data that repr shows: n the text's length, k the depth -/
structure Shw (d : D) (n k : Nat) : Prop where
  len : okS d.shown n
  sh : d.showable = true
  nd : d.hasDict = false
  dep : d.depth ≤ k
theorem Shw.mono {d : D} {n k m j : Nat} (h : Shw d n k) (hn : n ≤ m) (hk : k ≤ j) : Shw d m j := ⟨h.len.mono hn, h.sh, h.nd, Nat.le_trans h.dep hk⟩
theorem Shw.repr {d : D} {n k : Nat} (h : Shw d n k) (hn : n ≤ 16000000) (hk : k ≤ 100) : ∃ t : Str, biD .repr [d] = some (.val (.str t)) ∧ eqD (.str t) (.str t) = some true :=
  ⟨_, repr_of h.len hn h.sh h.nd (Nat.le_trans h.dep hk)⟩
theorem Shw.int {i : Int} (h : lg i ≤ 1900) : Shw (.int i) 1921 1 := ⟨okS_int h, showable_int h, rfl, by simp [PyData.depth]⟩
theorem Shw.bool (b : Bool) : Shw (.bool b) 5 1 := by
  refine ⟨?_, rfl, rfl, by simp [PyData.depth]⟩
  cases b
  · exact (okS_of "False").mono (by decide)
  · exact (okS_of "True").mono (by decide)
theorem Shw.none : Shw .none 4 1 := ⟨(okS_of "None").mono (by decide), rfl, rfl, by simp [PyData.depth]⟩
theorem showableAll_iff : ∀ {l : List D}, PyData.showableAll l = true ↔ ∀ d ∈ l, d.showable = true
  | [] => by simp [PyData.showableAll]
  | d :: l => by simp [PyData.showableAll, showableAll_iff (l := l)]
theorem hasDictAll_iff : ∀ {l : List D}, PyData.hasDictAll l = false ↔ ∀ d ∈ l, d.hasDict = false
  | [] => by simp [PyData.hasDictAll]
  | d :: l => by simp [PyData.hasDictAll, hasDictAll_iff (l := l)]
theorem depthAll_le {k : Nat} : ∀ {l : List D}, (∀ d ∈ l, d.depth ≤ k) → PyData.depthAll l ≤ k
  | [], _ => by simp [PyData.depthAll]
  | d :: l, h => by
    have h1 := h d (by simp)
    have h2 := depthAll_le (l := l) fun e he => h e (List.mem_cons_of_mem _ he)
    simp [PyData.depthAll]
    omega
theorem Shw.tuple {l : List D} {n k : Nat} (h : ∀ d ∈ l, Shw d n k) : Shw (.tuple l) (l.length * (n + 2) + 3) (k + 1) := by
  refine ⟨okS_tuple fun d hd => (h d hd).len, ?_, ?_, ?_⟩
  · simp only [PyData.showable]
    exact showableAll_iff.mpr fun d hd => (h d hd).sh
  · simp only [PyData.hasDict]
    exact hasDictAll_iff.mpr fun d hd => (h d hd).nd
  · have := depthAll_le fun d hd => (h d hd).dep
    simp only [PyData.depth]
    omega
theorem okS_from {m : Nat} : ∀ (ts : List Str) (k : Nat) (acc : Str) (n : Nat), okS acc n → (∀ t ∈ ts, okS t m) → okS (textFrom k acc ts) (n + ts.length * (m + 2))
  | [], k, acc, n, h, _ => h.mono (by omega)
  | t :: ts, k, acc, n, h, ht => by
    have h1 : okS ((if k > 0 then ", " else "" : String) : Str) 2 := by
      split
      · exact (okS_of ", ").mono (by decide)
      · exact (okS_of "").mono (by decide)
    have := okS_from ts (k + 1) _ _ ((h.app h1).app (ht t (by simp))) fun x hx => ht x (List.mem_cons_of_mem _ hx)
    refine this.mono ?_
    rw [List.length_cons, Nat.add_mul]
    omega
theorem okS_list {m : Nat} {l : List D} (h : ∀ d ∈ l, okS d.shown m) : okS (PyData.list l).shown (l.length * (m + 2) + 2) := by
  have e : (PyData.list l).shown = listText (l.map PyData.shown) := by
    rw [← shownAll_eq]
    simp [PyData.shown]
  rw [e]
  unfold listText
  refine ((okS_from (m := m) _ 0 _ _ (okS_of "[") fun t ht => ?_).app (okS_of "]")).mono ?_
  · obtain ⟨d, hd, rfl⟩ := List.mem_map.mp ht
    exact h d hd
  · have h1 : "[".length = 1 := rfl
    have h2 : "]".length = 1 := rfl
    rw [h1, h2, List.length_map]
    omega
theorem Shw.list {l : List D} {n k : Nat} (h : ∀ d ∈ l, Shw d n k) : Shw (.list l) (l.length * (n + 2) + 2) (k + 1) := by
  refine ⟨okS_list fun d hd => (h d hd).len, ?_, ?_, ?_⟩
  · simp only [PyData.showable]
    exact showableAll_iff.mpr fun d hd => (h d hd).sh
  · simp only [PyData.hasDict]
    exact hasDictAll_iff.mpr fun d hd => (h d hd).nd
  · have := depthAll_le fun d hd => (h d hd).dep
    simp only [PyData.depth]
    omega
theorem Shw.ofr {q : Rat} (h1 : ln q ≤ 1900) (h2 : ld q ≤ 1900) : Shw (fr q) 4000 2 := by
  refine (Shw.tuple (n := 1921) (k := 1) fun d hd => ?_).mono (by simp) (by decide)
  rcases List.mem_cons.mp hd with rfl | hd
  · exact Shw.int h1
  · rw [List.mem_singleton.mp hd]
    exact Shw.int h2
theorem Shw.frq {q : Rat} (h : lq q ≤ 1900) : Shw (fr q) 4000 2 := Shw.ofr (by rw [lq_nd] at h; omega) (by rw [lq_nd] at h; omega)
theorem Shw.ocn {c : Rat × Rat} (h1 : Shw (fr c.1) 4000 2) (h2 : Shw (fr c.2) 4000 2) : Shw (cn c) 8010 3 := by
  refine (Shw.tuple (n := 4000) (k := 2) fun d hd => ?_).mono (by simp) (by decide)
  rcases List.mem_cons.mp hd with rfl | hd
  · exact h1
  · rw [List.mem_singleton.mp hd]
    exact h2
/-- of a list of any such things -/
theorem Shw.pair {a b : D} {n k : Nat} (h1 : Shw a n k) (h2 : Shw b n k) : Shw (.tuple [a, b]) (2 * n + 10) (k + 1) :=
  (Shw.tuple (n := n) (k := k) fun d hd => by
    rcases List.mem_cons.mp hd with rfl | hd
    · exact h1
    · rw [List.mem_singleton.mp hd]
      exact h2).mono (by simp; omega) (by omega)
theorem Shw.lpair {a b : D} {n k : Nat} (h1 : Shw a n k) (h2 : Shw b n k) : Shw (.list [a, b]) (2 * n + 10) (k + 1) :=
  (Shw.list (n := n) (k := k) fun d hd => by
    rcases List.mem_cons.mp hd with rfl | hd
    · exact h1
    · rw [List.mem_singleton.mp hd]
      exact h2).mono (by simp; omega) (by omega)
end Mp

end

section
namespace Mp
open PySem PySem.Spec PyProof.Rows L2

/-! ### sorted, equal ones once -/
structure Asc (l m : List Rat) : Prop where
  len : m.length ≤ l.length
  asc : m.Pairwise (· < ·)
  mem : ∀ x, x ∈ m ↔ x ∈ l
theorem Asc.nil : Asc [] [] := ⟨by simp, .nil, by simp⟩
theorem Asc.keep {l m : List Rat} {x : Rat} (h : Asc l m) (hx : x ∈ m) : Asc (l ++ [x]) m := by
  refine ⟨?_, h.asc, fun y => ?_⟩
  · have := h.len
    simp
    omega
  · rw [List.mem_append, List.mem_singleton, h.mem y]
    constructor
    · exact .inl
    · rintro (z | rfl)
      · exact z
      · exact (h.mem _).mp hx
theorem take_lt {m : List Rat} {k : Nat} {x : Rat} (h : ∀ j, j < k → m.getD j 0 < x) : ∀ y ∈ m.take k, y < x := fun y hy => by
  obtain ⟨j, hj, rfl⟩ := List.mem_iff_getElem.mp hy
  rw [List.length_take] at hj
  have := h j (by omega)
  rw [List.getElem_take]
  rwa [List.getD_eq_getElem?_getD, List.getElem?_eq_getElem (by omega), Option.getD_some] at this
theorem drop_gt {m : List Rat} {k : Nat} {x : Rat} (ha : m.Pairwise (· < ·)) (h : k < m.length → x < m.getD k 0) : ∀ y ∈ m.drop k, x < y := fun y hy => by
  by_cases hk : k < m.length
  · have e : m.drop k = m[k] :: m.drop (k + 1) := List.drop_eq_getElem_cons hk
    have h0 := h hk
    rw [List.getD_eq_getElem?_getD, List.getElem?_eq_getElem hk, Option.getD_some] at h0
    have hp : (m.drop k).Pairwise (· < ·) := ha.sublist (List.drop_sublist ..)
    rw [e] at hp hy
    rcases List.mem_cons.mp hy with rfl | hy
    · exact h0
    · have := List.rel_of_pairwise_cons hp hy
      grind
  · rw [List.drop_of_length_le (by omega)] at hy
    cases hy
theorem Asc.ins {l m : List Rat} {x : Rat} {k : Nat} (h : Asc l m) (h1 : ∀ j, j < k → m.getD j 0 < x) (h2 : k < m.length → x < m.getD k 0) : Asc (l ++ [x]) (m.take k ++ x :: m.drop k) := by
  have a1 := take_lt h1
  have a2 := drop_gt h.asc h2
  refine ⟨?_, ?_, fun y => ?_⟩
  · have := h.len
    simp
    omega
  · rw [List.pairwise_append]
    refine ⟨h.asc.sublist (List.take_sublist ..), List.pairwise_cons.mpr ⟨a2, h.asc.sublist (List.drop_sublist ..)⟩, fun y hy z hz => ?_⟩
    have b1 := a1 y hy
    rcases List.mem_cons.mp hz with rfl | hz
    · exact b1
    · have := a2 z hz
      grind
  · rw [List.mem_append, List.mem_cons, List.mem_append, List.mem_singleton, ← h.mem y]
    conv => rhs; rw [← List.take_append_drop k m, List.mem_append]
    constructor
    · rintro (z | z | z)
      · exact .inl (.inl z)
      · exact .inr z
      · exact .inl (.inr z)
    · rintro ((z | z) | z)
      · exact .inl z
      · exact .inr (.inr z)
      · exact .inr (.inl z)
theorem Asc.ne {l m : List Rat} (h : Asc l m) (hl : l ≠ []) : m ≠ [] := by
  obtain ⟨x, r, rfl⟩ := List.exists_cons_of_ne_nil hl
  exact List.ne_nil_of_mem ((h.mem x).mpr (by simp))
theorem Asc.head_le {l m : List Rat} (h : Asc l m) {a : Rat} {r : List Rat} (e : m = a :: r) : a ∈ l ∧ ∀ x ∈ l, a ≤ x := by
  subst e
  refine ⟨(h.mem a).mp (by simp), fun x hx => ?_⟩
  rcases List.mem_cons.mp ((h.mem x).mpr hx) with rfl | hm
  · exact Rat.le_refl
  · have := List.rel_of_pairwise_cons h.asc hm
    grind
theorem Asc.le_last {l m : List Rat} (h : Asc l m) {a : Rat} {r : List Rat} (e : m = r ++ [a]) : a ∈ l ∧ ∀ x ∈ l, x ≤ a := by
  subst e
  refine ⟨(h.mem a).mp (by simp), fun x hx => ?_⟩
  rcases List.mem_append.mp ((h.mem x).mpr hx) with hm | hm
  · have := (List.pairwise_append.mp h.asc).2.2 x hm a (by simp)
    grind
  · rw [List.mem_singleton.mp hm]
    exact Rat.le_refl
end Mp

end

section
namespace Mp
open PySem PySem.Spec PyProof.Rows L2

/-! ### densities with a flow -/
/-- the densities of a piece at which the flow is z: both ends where it is flat -/
def hit (z : Rat) (p : (Rat × Rat) × (Rat × Rat)) : List Rat :=
  if p.1.2 = p.2.2 then (if p.1.2 = z then [p.1.1, p.2.1] else []) else
    if 0 ≤ (z - p.1.2) / (p.2.2 - p.1.2) ∧ (z - p.1.2) / (p.2.2 - p.1.2) ≤ 1 then [p.1.1 + (z - p.1.2) / (p.2.2 - p.1.2) * (p.2.1 - p.1.1)] else []
/-- the first density along corners -/
def ldGo (z : Rat) : Rat × Rat → List (Rat × Rat) → Rat
  | last, [] => last.1
  | last, c :: r => if c.2 < z then ldGo z c r else last.1 + (z - last.2) / ((c.2 - last.2) / (c.1 - last.1))
def ldR (z : Rat) (L : List (Rat × Rat)) : Rat := match L with
  | c :: l => ldGo z c l
  | [] => 0
theorem frac_lo {a b : Rat} (hb : b ≠ 0) (h0 : 0 ≤ a / b) (h1 : a / b ≤ 1) : (0 ≤ a ∧ a ≤ b ∧ 0 < b) ∨ (b ≤ a ∧ a ≤ 0 ∧ b < 0) := by
  have e : a = (a / b) * b := by grind
  by_cases h : 0 < b
  · left
    have h2 := Rat.mul_nonneg h0 (show 0 ≤ b by grind)
    have h3 := Rat.mul_le_mul_of_nonneg_right h1 (show 0 ≤ b by grind)
    grind
  · right
    have hb : 0 < -b := by grind
    have h2 := Rat.mul_nonneg h0 (show 0 ≤ -b by grind)
    have h3 := Rat.mul_le_mul_of_nonneg_right h1 (show 0 ≤ -b by grind)
    grind
theorem hit_nil {z : Rat} {p : (Rat × Rat) × (Rat × Rat)} (h1 : p.1.2 < z) (h2 : p.2.2 < z) : hit z p = [] := by
  unfold hit
  split
  · rw [if_neg (by grind)]
  · rename_i h
    rw [if_neg]
    rintro ⟨a, b⟩
    rcases frac_lo (by grind) a b with ⟨_, c, _⟩ | ⟨_, c, _⟩ <;> grind
theorem btw {a b t s : Rat} (h : s * a < s * b) (h0 : 0 ≤ t) (h1 : t ≤ 1) : s * a ≤ s * (a + t * (b - a)) ∧ s * (a + t * (b - a)) ≤ s * b := by
  have h2 := Rat.mul_nonneg h0 (show 0 ≤ s * b - s * a by grind)
  have h3 := Rat.mul_le_mul_of_nonneg_right h1 (show 0 ≤ s * b - s * a by grind)
  grind
theorem hit_in {z s : Rat} {p : (Rat × Rat) × (Rat × Rat)} (h : s * p.1.1 < s * p.2.1) : ∀ x ∈ hit z p, s * p.1.1 ≤ s * x ∧ s * x ≤ s * p.2.1 := fun x hx => by
  unfold hit at hx
  split at hx
  · split at hx
    · rcases List.mem_cons.mp hx with rfl | hx
      · grind
      · rw [List.mem_singleton.mp hx]
        grind
    · cases hx
  · split at hx
    · rename_i q
      rw [List.mem_singleton.mp hx]
      exact btw h q.1 q.2
    · cases hx
theorem hit_swap {z : Rat} {a b : Rat × Rat} : ∀ x, x ∈ hit z (a, b) → x ∈ hit z (b, a) := fun x hx => by
  unfold hit at *
  simp only at *
  by_cases h : a.2 = b.2
  · rw [if_pos h] at hx
    rw [if_pos h.symm]
    by_cases q : a.2 = z
    · rw [if_pos q] at hx
      rw [if_pos (by grind)]
      simp at *
      grind
    · rw [if_neg q] at hx
      cases hx
  · rw [if_neg h] at hx
    rw [if_neg (fun q => h q.symm)]
    have e : (z - b.2) / (a.2 - b.2) = 1 - (z - a.2) / (b.2 - a.2) := by
      have h1 : a.2 - b.2 ≠ 0 := by grind
      have h2 : b.2 - a.2 ≠ 0 := by grind
      grind
    rw [e]
    generalize (z - a.2) / (b.2 - a.2) = t at *
    by_cases q : 0 ≤ t ∧ t ≤ 1
    · rw [if_pos q] at hx
      rw [if_pos (by grind)]
      simp at *
      grind
    · rw [if_neg q] at hx
      cases hx
theorem ld_spec {z s : Rat} : ∀ (l : List (Rat × Rat)) (last : Rat × Rat), last.2 < z → (∀ p ∈ prs (last :: l), s * p.1.1 < s * p.2.1) → (∃ c ∈ l, z ≤ c.2) →
    (∃ p ∈ prs (last :: l), ldGo z last l ∈ hit z p) ∧ (∀ p ∈ prs (last :: l), ∀ x ∈ hit z p, s * ldGo z last l ≤ s * x) ∧ s * last.1 ≤ s * ldGo z last l
  | [], _, _, _, ⟨_, h, _⟩ => nomatch h
  | c :: r, last, h0, hi, hx => by
    have hi0 := hi (last, c) (by simp)
    simp only at hi0
    by_cases hc : c.2 < z
    · obtain ⟨a1, a2, a3⟩ := ld_spec r c hc (fun p hp => hi p (by rw [prs_cons]; exact List.mem_cons_of_mem _ hp)) (by
        obtain ⟨d, hd, q⟩ := hx
        rcases List.mem_cons.mp hd with rfl | hd
        · exact absurd hc (by grind)
        · exact ⟨d, hd, q⟩)
      unfold ldGo
      rw [if_pos hc]
      refine ⟨?_, ?_, by grind⟩
      · obtain ⟨p, hp, q⟩ := a1
        exact ⟨p, by rw [prs_cons]; exact List.mem_cons_of_mem _ hp, q⟩
      · intro p hp x hx
        rw [prs_cons] at hp
        rcases List.mem_cons.mp hp with rfl | hp
        · rw [hit_nil h0 hc] at hx
          cases hx
        · exact a2 p hp x hx
    · unfold ldGo
      rw [if_neg hc]
      have d0 : 0 < c.2 - last.2 := by grind
      have nz : c.1 - last.1 ≠ 0 := fun q => by
        have : c.1 = last.1 := by grind
        rw [this] at hi0
        grind
      have e : last.1 + (z - last.2) / ((c.2 - last.2) / (c.1 - last.1)) = last.1 + (z - last.2) / (c.2 - last.2) * (c.1 - last.1) := by
        have : c.2 - last.2 ≠ 0 := by grind
        grind
      have t0 : 0 ≤ (z - last.2) / (c.2 - last.2) := by
        rw [Rat.div_def]
        exact Rat.mul_nonneg (by grind) (by have := Rat.inv_pos.mpr d0; grind)
      have t1 : (z - last.2) / (c.2 - last.2) ≤ 1 := by
        have := Rat.mul_le_mul_of_nonneg_right (show z - last.2 ≤ c.2 - last.2 by grind) (show 0 ≤ (c.2 - last.2)⁻¹ by have := Rat.inv_pos.mpr d0; grind)
        have e1 : (c.2 - last.2) * (c.2 - last.2)⁻¹ = 1 := Rat.mul_inv_cancel _ (by grind)
        rw [e1, ← Rat.div_def] at this
        exact this
      rw [e]
      have hb := btw hi0 t0 t1
      refine ⟨⟨(last, c), by simp, ?_⟩, ?_, hb.1⟩
      · unfold hit
        simp only
        rw [if_neg (by grind), if_pos ⟨t0, t1⟩]
        simp
      · have later : ∀ (l : List (Rat × Rat)) (c : Rat × Rat), (∀ p ∈ prs (c :: l), s * p.1.1 < s * p.2.1) → ∀ p ∈ prs (c :: l), s * c.1 ≤ s * p.1.1 := by
          intro l
          induction l with
          | nil => intro c _ p hp; cases hp
          | cons d l ih =>
            intro c h p hp
            rw [prs_cons] at hp
            rcases List.mem_cons.mp hp with rfl | hp
            · exact Rat.le_refl
            · have a := ih d (fun p hp => h p (by rw [prs_cons]; exact List.mem_cons_of_mem _ hp)) p hp
              have b := h (c, d) (by simp)
              simp only at b
              grind
        intro p hp x hx
        have hip := hi p hp
        rw [prs_cons] at hp
        rcases List.mem_cons.mp hp with rfl | hp
        · unfold hit at hx
          simp only at hx
          rw [if_neg (by grind), if_pos ⟨t0, t1⟩] at hx
          rw [List.mem_singleton.mp hx]
          exact Rat.le_refl
        · have a := later r c (fun p hp => hi p (by rw [prs_cons]; exact List.mem_cons_of_mem _ hp)) p hp
          have b := (hit_in hip x hx).1
          grind
theorem prs_rev {α : Type} : ∀ (L : List α) (p : α × α), p ∈ prs L.reverse → (p.2, p.1) ∈ prs L
  | [], p, h => by simp at h
  | [_], p, h => by simp at h
  | a :: b :: l, p, h => by
    rw [List.reverse_cons] at h
    have hl : (b :: l).reverse.getLast? = some b := by simp
    rw [prs_snoc _ _ _ hl] at h
    rw [prs_cons]
    rcases List.mem_append.mp h with h | h
    · exact List.mem_cons_of_mem _ (prs_rev (b :: l) p h)
    · rw [List.mem_singleton.mp h]
      simp
/-- all densities with a flow, piece by piece -/
def hits (L : List (Rat × Rat)) (z : Rat) : List Rat := (prs L).flatMap (hit z)
def topR (L : List (Rat × Rat)) : Rat := L.foldl (fun b c => if b < c.2 then c.2 else b) 0
theorem topR_ge {L : List (Rat × Rat)} : ∀ c ∈ L, c.2 ≤ topR L := by
  have go : ∀ (l : List (Rat × Rat)) (b : Rat), b ≤ l.foldl (fun b c => if b < c.2 then c.2 else b) b ∧ ∀ c ∈ l, c.2 ≤ l.foldl (fun b c => if b < c.2 then c.2 else b) b := by
    intro l
    induction l with
    | nil => intro b; exact ⟨Rat.le_refl, fun c hc => nomatch hc⟩
    | cons d l ih =>
      intro b
      rw [List.foldl_cons]
      have h := ih (if b < d.2 then d.2 else b)
      have h0 : b ≤ (if b < d.2 then d.2 else b) ∧ d.2 ≤ (if b < d.2 then d.2 else b) := by
        split <;> grind
      refine ⟨by grind, fun c hc => ?_⟩
      rcases List.mem_cons.mp hc with rfl | hc
      · grind
      · exact h.2 c hc
  exact (go L 0).2
theorem topR_mem {L : List (Rat × Rat)} : topR L = 0 ∨ ∃ c ∈ L, topR L = c.2 := by
  have go : ∀ (l : List (Rat × Rat)) (b : Rat), l.foldl (fun b c => if b < c.2 then c.2 else b) b = b ∨ ∃ c ∈ l, l.foldl (fun b c => if b < c.2 then c.2 else b) b = c.2 := by
    intro l
    induction l with
    | nil => intro b; exact .inl rfl
    | cons d l ih =>
      intro b
      rw [List.foldl_cons]
      rcases ih (if b < d.2 then d.2 else b) with h | ⟨c, hc, h⟩
      · rw [h]
        split
        · exact .inr ⟨d, by simp, rfl⟩
        · exact .inl rfl
      · exact .inr ⟨c, List.mem_cons_of_mem _ hc, h⟩
  exact go L 0
theorem hits_none {L : List (Rat × Rat)} {z : Rat} (h : topR L < z) : hits L z = [] := by
  unfold hits
  rw [List.flatMap_eq_nil_iff]
  intro p hp
  have h1 := topR_ge _ (mem_prs hp).1
  have h2 := topR_ge _ (mem_prs hp).2
  exact hit_nil (by grind) (by grind)
theorem hits_rev {L : List (Rat × Rat)} {z x : Rat} : (∃ p ∈ prs L.reverse, x ∈ hit z p) → ∃ p ∈ prs L, x ∈ hit z p := fun ⟨p, hp, hx⟩ => ⟨_, prs_rev L p hp, hit_swap (a := p.1) (b := p.2) x hx⟩
/-- the least and the greatest density with a flow between 0 and the top -/
theorem hits_low {L : List (Rat × Rat)} (h : VK L) {z : Rat} (h0 : 0 < z) (h1 : z ≤ topR L) : ldR z L ∈ hits L z ∧ ∀ x ∈ hits L z, ldR z L ≤ x := by
  obtain ⟨c, l, rfl⟩ := h.fst
  have ex : ∃ d ∈ c :: l, z ≤ d.2 := by
    rcases topR_mem (L := (0, 0) :: c :: l) with e | ⟨d, hd, e⟩
    · rw [e] at h1; grind
    · rw [e] at h1
      rcases List.mem_cons.mp hd with rfl | hd
      · grind
      · exact ⟨d, hd, h1⟩
  obtain ⟨a1, a2, _⟩ := ld_spec (z := z) (s := 1) (c :: l) (0, 0) h0 (fun p hp => by have := h.inc p hp; grind) ex
  refine ⟨List.mem_flatMap.mpr a1, fun x hx => ?_⟩
  obtain ⟨p, hp, hx⟩ := List.mem_flatMap.mp hx
  have := a2 p hp x hx
  show ldGo z (0, 0) (c :: l) ≤ x
  grind
theorem hits_high {L : List (Rat × Rat)} (h : VK L) {z : Rat} (h0 : 0 < z) (h1 : z ≤ topR L) : ldR z L.reverse ∈ hits L z ∧ ∀ x ∈ hits L z, x ≤ ldR z L.reverse := by
  obtain ⟨a, d, e⟩ := h.lst2
  have er : L.reverse = (full L, 0) :: (a ++ [d]).reverse := by
    conv => lhs; rw [e]
    simp
  have ex : ∃ w ∈ (a ++ [d]).reverse, z ≤ w.2 := by
    rcases topR_mem (L := L) with q | ⟨c, hc, q⟩
    · rw [q] at h1; grind
    · rw [q] at h1
      have : c ∈ L.reverse := List.mem_reverse.mpr hc
      rw [er] at this
      rcases List.mem_cons.mp this with rfl | hd
      · grind
      · exact ⟨c, hd, h1⟩
  have hi : ∀ p ∈ prs ((full L, (0 : Rat)) :: (a ++ [d]).reverse), (-1 : Rat) * p.1.1 < (-1 : Rat) * p.2.1 := fun p hp => by
    rw [← er] at hp
    have := h.inc _ (prs_rev L p hp)
    grind
  obtain ⟨a1, a2, _⟩ := ld_spec (z := z) (s := -1) (a ++ [d]).reverse (full L, 0) h0 hi ex
  have el : ldR z L.reverse = ldGo z (full L, 0) (a ++ [d]).reverse := by rw [er]; rfl
  rw [el]
  rw [← er] at a1 a2
  refine ⟨List.mem_flatMap.mpr (hits_rev a1), fun x hx => ?_⟩
  obtain ⟨p, hp, hx⟩ := List.mem_flatMap.mp hx
  have hp' : (p.2, p.1) ∈ prs L.reverse := by
    have := prs_rev L.reverse p (by rw [List.reverse_reverse]; exact hp)
    exact this
  have := a2 _ hp' x (hit_swap (a := p.1) (b := p.2) x hx)
  grind
theorem hits_zero {L : List (Rat × Rat)} (h : VK L) : 0 ∈ hits L 0 ∧ full L ∈ hits L 0 ∧ ∀ x ∈ hits L 0, 0 ≤ x ∧ x ≤ full L := by
  refine ⟨?_, ?_, fun x hx => ?_⟩
  · obtain ⟨c, l, e⟩ := h.fst
    have hc : 0 < c.2 := h.mid c (by
      have := h.len
      rw [e] at this ⊢
      cases l with
      | nil => simp at this
      | cons d l => simp)
    refine List.mem_flatMap.mpr ⟨((0, 0), c), by rw [e]; simp, ?_⟩
    unfold hit
    simp only
    rw [if_neg (by grind)]
    have : ((0 : Rat) - 0) / (c.2 - 0) = 0 := by grind
    rw [this, if_pos (by decide)]
    simp
    grind
  · obtain ⟨a, d, e⟩ := h.lst2
    generalize hf : full L = f at e ⊢
    have hd : 0 < d.2 := h.mid d (by
      have := h.len
      rw [e] at this ⊢
      cases a with
      | nil => simp at this
      | cons x a => simp)
    refine List.mem_flatMap.mpr ⟨(d, (f, 0)), by rw [e]; exact prs_last a d _, ?_⟩
    unfold hit
    simp only
    rw [if_neg (by grind)]
    have : ((0 : Rat) - d.2) / (0 - d.2) = 1 := by
      have : (0 : Rat) - d.2 ≠ 0 := by grind
      grind
    rw [this, if_pos (by decide)]
    simp
    grind
  · obtain ⟨p, hp, hx⟩ := List.mem_flatMap.mp hx
    have hi := h.inc p hp
    have := hit_in (z := 0) (s := 1) (p := p) (by grind) x hx
    have r1 := h.range _ (mem_prs hp).1
    have r2 := h.range _ (mem_prs hp).2
    grind
end Mp

end

section
namespace Mp
open PySem PySem.Spec PyProof.Rows L2
/-! ### parts of a body -/
def nthS : Sms → Nat → Sm
  | .nil, _ => .pass ⟨0, 0, 0, 0⟩
  | .cons s _, 0 => s
  | .cons _ r, k + 1 => nthS r k
def forT : Sm → Tg
  | .fors _ t _ _ => t
  | _ => .nm ⟨0, 0, 0, 0⟩ 0
def forB : Sm → Sms
  | .fors _ _ _ b => b
  | _ => .nil
theorem last_at {α : Type} {L : List α} {J : Nat} (hJ : L.length = J + 1) (d : α) : L.getLastD d = L[J] := by
  rw [List.getLastD_eq_getLast?, List.getLast?_eq_getElem?]
  simp [hJ]
theorem topR_snoc (l : List (Rat × Rat)) (c : Rat × Rat) : topR (l ++ [c]) = if topR l < c.2 then c.2 else topR l := by
  unfold topR
  rw [List.foldl_append]
  rfl
theorem topR_lq {L : List (Rat × Rat)} {k : Nat} (hs : ∀ c ∈ L, lc c ≤ k) (hk : 1 ≤ k) : lq (topR L) ≤ k := by
  rcases topR_mem (L := L) with e | ⟨c, hc, e⟩
  · rw [e]
    exact hk
  · rw [e]
    have := hs c hc
    unfold lc at this
    omega
/-- what densities_with tells -/
def withD (L : List (Rat × Rat)) (z : Rat) : D := if topR L < z then .none else if z = 0 then .tuple [fr 0, fr (full L)] else .tuple [fr (ldR z L), fr (ldR z L.reverse)]
theorem hit_sz {L : List (Rat × Rat)} (h : RoadOk L) {z : Rat} (hz : lq z ≤ 1300) {p : (Rat × Rat) × (Rat × Rat)} (hp : p ∈ prs L) : ∀ x ∈ hit z p, ln x ≤ 1900 ∧ ld x ≤ 1900 := fun x hx => by
  have s1 := h.sz _ (mem_prs hp).1
  have s2 := h.sz _ (mem_prs hp).2
  have s3 : lq (slope p) ≤ 20 := h.sp _ (List.mem_map_of_mem hp)
  unfold lc at s1 s2
  have hi := h.vk.inc p hp
  rw [lq_nd] at s1 s2 s3 hz
  simp only [lq_nd] at s1 s2 s3 hz
  unfold hit at hx
  by_cases q : p.1.2 = p.2.2
  · rw [if_pos q] at hx
    by_cases q2 : p.1.2 = z
    · rw [if_pos q2] at hx
      rcases List.mem_cons.mp hx with rfl | hx
      · omega
      · rw [List.mem_singleton.mp hx]
        omega
    · rw [if_neg q2] at hx
      cases hx
  · rw [if_neg q] at hx
    have e : p.1.1 + (z - p.1.2) / (p.2.2 - p.1.2) * (p.2.1 - p.1.1) = p.1.1 + (z - p.1.2) / slope p := by
      unfold slope
      have : p.2.2 - p.1.2 ≠ 0 := by grind
      have : p.2.1 - p.1.1 ≠ 0 := by grind
      grind
    have sn : slope p ≠ 0 := by
      unfold slope
      have : p.2.2 - p.1.2 ≠ 0 := by grind
      have : p.2.1 - p.1.1 ≠ 0 := by grind
      intro w
      have : (p.2.2 - p.1.2) = (p.2.2 - p.1.2) / (p.2.1 - p.1.1) * (p.2.1 - p.1.1) := by grind
      grind
    rw [e] at hx
    split at hx
    · rw [List.mem_singleton.mp hx]
      have a1 := nd_sub z p.1.2
      have a2 := nd_div (a := z - p.1.2) (b := slope p) sn
      have a3 := nd_add p.1.1 ((z - p.1.2) / slope p)
      omega
    · cases hx
theorem hits_take {L : List (Rat × Rat)} {k : Nat} {z : Rat} (h : k + 1 < L.length) : ((prs L).take (k + 1)).flatMap (hit z) = ((prs L).take k).flatMap (hit z) ++ hit z (L[k], L[k + 1]) := by
  have hl : k < (prs L).length := by rw [prs_length]; omega
  have e : (prs L)[k] = (L[k], L[k + 1]) := by simp [prs]
  rw [List.take_succ_eq_append_getElem hl, e]
  simp
theorem hit_len (z : Rat) (p : (Rat × Rat) × (Rat × Rat)) : (hit z p).length ≤ 2 := by
  unfold hit
  split
  · split <;> simp
  · split <;> simp
theorem flat_len {z : Rat} : ∀ l : List ((Rat × Rat) × (Rat × Rat)), (l.flatMap (hit z)).length ≤ 2 * l.length
  | [] => by simp
  | p :: l => by
    have := flat_len (z := z) l
    have := hit_len z p
    rw [List.flatMap_cons, List.length_append, List.length_cons]
    omega
/-- what the law tells of the sorted ones is what densities_with tells -/
theorem ends_eq {L : List (Rat × Rat)} (h : VK L) {z : Rat} (z0 : 0 ≤ z) {m : List Rat} (hm : Asc (hits L z) m) : (m = [] ∧ withD L z = .none) ∨ (∃ a b r s, m = a :: r ∧ m = s ++ [b] ∧ withD L z = .tuple [fr a, fr b]) := by
  unfold withD
  by_cases ht : topR L < z
  · left
    rw [if_pos ht]
    have := hits_none ht
    rw [this] at hm
    refine ⟨?_, rfl⟩
    cases m with
    | nil => rfl
    | cons a m => have := hm.len; simp at this
  · right
    rw [if_neg ht]
    have key : ∃ lo hi, lo ∈ hits L z ∧ hi ∈ hits L z ∧ (∀ x ∈ hits L z, lo ≤ x ∧ x ≤ hi) ∧ (if z = 0 then PyData.tuple [fr 0, fr (full L)] else .tuple [fr (ldR z L), fr (ldR z L.reverse)]) = .tuple [fr lo, fr hi] := by
      by_cases hz : z = 0
      · subst hz
        obtain ⟨a1, a2, a3⟩ := hits_zero h
        exact ⟨0, full L, a1, a2, a3, by rw [if_pos rfl]⟩
      · obtain ⟨a1, a2⟩ := hits_low h (z := z) (by grind) (by grind)
        obtain ⟨b1, b2⟩ := hits_high h (z := z) (by grind) (by grind)
        exact ⟨_, _, a1, b1, fun x hx => ⟨a2 x hx, b2 x hx⟩, by rw [if_neg hz]⟩
    obtain ⟨lo, hi, l1, h1, hb, e⟩ := key
    rw [e]
    have ne := hm.ne (List.ne_nil_of_mem l1)
    obtain ⟨a, r, ea⟩ := List.exists_cons_of_ne_nil ne
    obtain ⟨s, b, eb⟩ : ∃ s b, m = s ++ [b] := ⟨m.dropLast, m.getLast ne, (List.dropLast_concat_getLast ne).symm⟩
    have ha := hm.head_le ea
    have hb2 := hm.le_last eb
    have e1 : a = lo := by
      have := ha.2 lo l1
      have := (hb a ha.1).1
      grind
    have e2 : b = hi := by
      have := hb2.2 hi h1
      have := (hb b hb2.1).2
      grind
    exact ⟨a, b, r, s, ea, eb, by rw [e1, e2]⟩
theorem flow_nonneg {L : List (Rat × Rat)} (h : VK L) {x : Rat} (h0 : 0 ≤ x) (h1 : x ≤ full L) : 0 ≤ flow L x := by
  obtain ⟨v, hv, e⟩ := toll_eq h h0 h1 (lasts := 1) (by decide)
  have v1 : v * 1 = v := Rat.mul_one v
  rw [v1] at e
  obtain ⟨c, l, eL⟩ := h.fst
  obtain ⟨a, d, eR⟩ := h.lst2
  generalize full L = f at *
  have g1 := tollR_ge (L := L) (far := v) (lasts := 1) (0, 0) (by rw [eL]; simp)
  have g2 := tollR_ge (L := L) (far := v) (lasts := 1) (f, 0) (by rw [eR]; simp)
  simp only at g1 g2
  by_cases p : 0 ≤ v
  · have := Rat.mul_nonneg h0 p
    grind
  · have := Rat.mul_nonneg (show 0 ≤ f - x by grind) (show 0 ≤ -v by grind)
    grind
end Mp

end

section
namespace Mp
open PySem PySem.Spec PyProof.Rows L2

/-! ### texts of corners tell them apart -/
def digs (i : Int) : List Char := (toString i).toList
theorem nodig_comma {n : Nat} : ',' ∉ Nat.toDigits 10 n := fun h => by
  have := Nat.isDigit_of_mem_toDigits (b := 10) (by decide) (by decide) h
  exact absurd this (by decide)
theorem nodig_minus {n : Nat} : '-' ∉ Nat.toDigits 10 n := fun h => by
  have := Nat.isDigit_of_mem_toDigits (b := 10) (by decide) (by decide) h
  exact absurd this (by decide)
theorem digs_nat (n : Nat) : digs (Int.ofNat n) = Nat.toDigits 10 n := Nat.toList_repr
theorem digs_neg (n : Nat) : digs (Int.negSucc n) = '-' :: Nat.toDigits 10 (n + 1) := by
  unfold digs
  show ("-" ++ Nat.repr (n + 1) : String).toList = _
  rw [String.toList_append, Nat.toList_repr]
  rfl
theorem digs_comma (i : Int) : ',' ∉ digs i := by
  cases i with
  | ofNat n => rw [digs_nat]; exact nodig_comma
  | negSucc n =>
    rw [digs_neg]
    intro h
    rcases List.mem_cons.mp h with h | h
    · exact absurd h (by decide)
    · exact nodig_comma h
theorem digits_inj {m n : Nat} (h : Nat.toDigits 10 m = Nat.toDigits 10 n) : m = n := by
  have h1 := Nat.ofDigitChars_ten_toDigits (n := m)
  rw [h, Nat.ofDigitChars_ten_toDigits] at h1
  exact h1.symm
theorem digs_inj {i j : Int} (h : digs i = digs j) : i = j := by
  cases i with
  | ofNat m =>
    cases j with
    | ofNat n =>
      rw [digs_nat, digs_nat] at h
      rw [digits_inj h]
    | negSucc n =>
      rw [digs_nat, digs_neg] at h
      exact absurd (by rw [h]; simp) (nodig_minus (n := m))
  | negSucc m =>
    cases j with
    | ofNat n =>
      rw [digs_nat, digs_neg] at h
      exact absurd (by rw [← h]; simp) (nodig_minus (n := n))
    | negSucc n =>
      rw [digs_neg, digs_neg] at h
      have := digits_inj (List.cons.inj h).2
      rw [show m = n by omega]
def sg (s : Str) : List Nat := s.cps.toList
theorem sg_app (a b : Str) : sg (a ++ b) = sg a ++ sg b := by
  unfold sg
  rw [Str.cps_append, Array.toList_append]
theorem sg_of (s : String) : sg (Str.ofString s) = s.toList.map Char.toNat := signs_ofString s
theorem sg_int (i : Int) : sg (PyData.int i).shown = (digs i).map Char.toNat := by
  have e : (PyData.int i).shown = Str.ofString (toString i) := by simp [PyData.shown]
  rw [e, sg_of]
  rfl
theorem sg_pair (a b : D) : sg (PyData.tuple [a, b]).shown = 40 :: (sg a.shown ++ 44 :: 32 :: (sg b.shown ++ [41])) := by
  have e : (PyData.tuple [a, b]).shown = tupleText [a.shown, b.shown] := by simp [PyData.shown, PyData.shownAll]
  rw [e]
  unfold tupleText
  rw [sg_app, sg_app, join_cons_cons, sg_app, sg_app, sg_of, sg_of]
  simp [sg_of]
  rfl
theorem split44 : ∀ {a b r r' : List Nat}, 44 ∉ a → 44 ∉ b → a ++ 44 :: r = b ++ 44 :: r' → a = b ∧ r = r'
  | [], [], r, r', _, _, h => by simpa using h
  | [], y :: b, r, r', _, hb, h => by
    simp at h hb
    exact absurd h.1 hb.1
  | x :: a, [], r, r', ha, _, h => by
    simp at h ha
    exact absurd h.1.symm ha.1
  | x :: a, y :: b, r, r', ha, hb, h => by
    simp at h ha hb
    obtain ⟨h1, h2⟩ := split44 ha.2 hb.2 h.2
    rw [h.1, h1, h2]
    simp
theorem dg44 (i : Int) : 44 ∉ (digs i).map Char.toNat := fun h => by
  obtain ⟨c, hc, e⟩ := List.mem_map.mp h
  have : c = ',' := Char.ext (UInt32.toNat_inj.mp e)
  rw [this] at hc
  exact digs_comma i hc
theorem dg_inj {i j : Int} (h : (digs i).map Char.toNat = (digs j).map Char.toNat) : i = j := by
  apply digs_inj
  exact (List.map_inj_right fun x y e => Char.ext (UInt32.toNat_inj.mp e)).mp h
theorem cn_shown {c d : Rat × Rat} (h : (cn c).shown = (cn d).shown) : c = d := by
  have h := congrArg sg h
  unfold cn fr at h
  rw [sg_pair, sg_pair, sg_pair, sg_pair, sg_pair, sg_pair] at h
  simp only [sg_int, List.cons_append, List.append_assoc, List.cons.injEq, true_and] at h
  obtain ⟨h1, h⟩ := split44 (dg44 _) (dg44 _) h
  simp only [List.cons.injEq, true_and] at h
  have n41 : ∀ i : Int, 44 ∉ (digs i).map Char.toNat ++ [41] := fun i z => by
    rcases List.mem_append.mp z with z | z
    · exact dg44 i z
    · simp at z
  have e1 : ∀ (i : Int) (r : List Nat), (digs i).map Char.toNat ++ 41 :: 44 :: r = ((digs i).map Char.toNat ++ [41]) ++ 44 :: r := fun i r => by simp
  simp only [List.nil_append, e1] at h
  obtain ⟨h2, h⟩ := split44 (n41 _) (n41 _) h
  simp only [List.cons.injEq, true_and] at h
  obtain ⟨h3, h⟩ := split44 (dg44 _) (dg44 _) h
  simp only [List.cons.injEq, true_and] at h
  have h2 := List.append_cancel_right h2
  have h4 := List.append_cancel_right h
  have k1 := dg_inj h1
  have k2 := dg_inj h2
  have k3 := dg_inj h3
  have k4 := dg_inj h4
  apply Prod.ext
  · exact Rat.ext k1 (by omega)
  · exact Rat.ext k3 (by omega)
theorem shown_0 : (cn (0, 0)).shown = ("((0, 1), (0, 1))" : Str) := by decide +kernel
theorem ok_0 : PyData.strOk (cn (0, 0)).shown = true := by decide +kernel
theorem eqD_texts {s t : Str} (h1 : PyData.strOk s = true) (h2 : PyData.strOk t = true) {p : Prop} [Decidable p] (h : s = t ↔ p) : eqD (.str s) (.str t) = some (decide p) := by
  rw [eq_of (by simp [SeqAt.shaped, PyData.canLay0, PyData.depth, h1]) (by simp [SeqAt.shaped, PyData.canLay0, PyData.depth, h2])]
  congr 1
  simp only [PyData.eqv]
  by_cases q : p
  · rw [decide_eq_true q, h.mpr q]
    simp
  · rw [decide_eq_false q, beq_eq_false_iff_ne]
    exact fun z => q (h.mp z)
/-- the law's look at the first corner -/
theorem eqD_first (c : Rat × Rat) (h : PyData.strOk (cn c).shown = true) {t : Str} (e : (cn (0, 0)).shown = t) : eqD (.str (cn c).shown) (.str t) = some (decide (c = (0, 0))) := by
  subst e
  exact eqD_texts h ok_0 ⟨cn_shown, fun e => by rw [e]⟩
end Mp

end

section
namespace Mp
open PySem PySem.Spec PyProof.Rows L2

/-! ### what data of any sort are -/
def isI : D → Bool
  | .int _ => true
  | _ => false
def isB : D → Bool
  | .bool _ => true
  | _ => false
def isT : D → Bool
  | .tuple _ => true
  | _ => false
def itemsT : D → List D
  | .tuple l => l
  | _ => []
theorem isi_int (d : D) (p : Pos) : isiD d (.one p .int) = some (isI d || isB d) := by cases d <;> simp [isI, isB]
theorem isi_bool (d : D) (p : Pos) : isiD d (.one p .bool) = some (isB d) := by cases d <;> simp [isB]
theorem isi_tuple (d : D) (p : Pos) : isiD d (.one p .tuple) = some (isT d) := by cases d <;> simp [isT]
theorem isT_iff {d : D} : isT d = true ↔ ∃ l, d = .tuple l := by cases d <;> simp [isT]
theorem isI_iff {d : D} : isI d = true ↔ ∃ i, d = .int i := by cases d <;> simp [isI]
/-- a fraction of least terms -/
def frB : D → Bool
  | .tuple [.int a, .int b] => decide (0 < b) && decide (Nat.gcd a.natAbs b.natAbs = 1)
  | _ => false
theorem frB_fr (q : Rat) : frB (fr q) = true := by
  unfold fr frB
  have h1 : (0 : Int) < (q.den : Nat) := by
    have := q.den_nz
    omega
  have h2 : Nat.gcd q.num.natAbs ((q.den : Nat) : Int).natAbs = 1 := q.reduced
  show (decide _ && decide _) = true
  rw [decide_eq_true h1, decide_eq_true h2]
  rfl
theorem frB_of {d : D} (h : frB d = true) : ∃ q : Rat, d = fr q := by
  unfold frB at h
  split at h
  · rename_i a b
    rw [Bool.and_eq_true, decide_eq_true_eq, decide_eq_true_eq] at h
    obtain ⟨h1, h2⟩ := h
    refine ⟨⟨a, b.toNat, by omega, ?_⟩, ?_⟩
    · unfold Nat.Coprime
      rw [show b.toNat = b.natAbs by omega]
      exact h2
    · unfold fr
      simp only
      rw [show ((b.toNat : Nat) : Int) = b by omega]
  · cases h
theorem frB_iff {d : D} : frB d = true ↔ ∃ q : Rat, d = fr q := ⟨frB_of, fun ⟨q, e⟩ => by rw [e]; exact frB_fr q⟩
/-- a pair of such -/
def cnB : D → Bool
  | .tuple [x, y] => frB x && frB y
  | _ => false
theorem cnB_of {d : D} (h : cnB d = true) : ∃ c, d = cn c := by
  unfold cnB at h
  split at h
  · rw [Bool.and_eq_true] at h
    obtain ⟨p, rfl⟩ := frB_of h.1
    obtain ⟨q, rfl⟩ := frB_of h.2
    exact ⟨(p, q), rfl⟩
  · cases h
theorem cnB_cn (c : Rat × Rat) : cnB (cn c) = true := by
  unfold cn cnB
  show (frB _ && frB _) = true
  rw [frB_fr, frB_fr]
  rfl
theorem cnB_all : ∀ {l : List D}, (∀ d ∈ l, cnB d = true) → ∃ L : List (Rat × Rat), l = L.map cn
  | [], _ => ⟨[], rfl⟩
  | d :: l, h => by
    obtain ⟨c, rfl⟩ := cnB_of (h d (by simp))
    obtain ⟨L, rfl⟩ := cnB_all fun e he => h e (List.mem_cons_of_mem _ he)
    exact ⟨c :: L, rfl⟩
theorem cn_inj {a b : Rat × Rat} (h : cn a = cn b) : a = b := by
  unfold cn at h
  injection h with h
  injection h with h1 h2
  injection h2 with h2 _
  exact Prod.ext (fr_inj.mp h1) (fr_inj.mp h2)
theorem KD_inj {L M : List (Rat × Rat)} (h : KD L = KD M) : L = M := by
  injection h with h
  exact (List.map_inj_right fun _ _ e => cn_inj e).mp h
open Classical in
/-- a kind of road -/
noncomputable def roadB (d : D) : Bool := decide (∃ L, d = KD L ∧ VK L)
open Classical in
theorem roadB_KD (L : List (Rat × Rat)) : roadB (KD L) = decide (VK L) := by
  unfold roadB
  apply decide_eq_decide.mpr
  constructor
  · rintro ⟨M, e, h⟩
    rw [KD_inj e]
    exact h
  · exact fun h => ⟨L, rfl, h⟩
open Classical in
theorem roadB_no {d : D} (h : ∀ L, VK L → d ≠ KD L) : roadB d = false := decide_eq_false fun ⟨L, e, v⟩ => h L v e
/-- all whole numbers in it are so short -/
def szD (n : Nat) : Nat → D → Prop
  | 0, _ => False
  | _ + 1, .none => True
  | _ + 1, .bool _ => True
  | _ + 1, .int i => lg i ≤ n
  | _ + 1, .str s => okS (PyData.str s).shown 20
  | k + 1, .list l => ∀ d ∈ l, szD n k d
  | k + 1, .tuple l => ∀ d ∈ l, szD n k d
  | _ + 1, .dict kvs => kvs = [] ∨ kvs = [(.str "x", .int 1)]
theorem szD.mono {n m : Nat} (hm : n ≤ m) : ∀ {k j : Nat} {d : D}, szD n k d → k ≤ j → szD m j d
  | 0, _, _, h, _ => h.elim
  | _ + 1, 0, _, _, h => by omega
  | k + 1, j + 1, .none, _, _ => trivial
  | k + 1, j + 1, .bool _, _, _ => trivial
  | k + 1, j + 1, .int i, h, _ => by
    have h : lg i ≤ n := h
    show lg i ≤ m
    omega
  | k + 1, j + 1, .str s, h, _ => h
  | k + 1, j + 1, .list l, h, hj => fun d hd => (h d hd).mono hm (by omega)
  | k + 1, j + 1, .tuple l, h, hj => fun d hd => (h d hd).mono hm (by omega)
  | k + 1, j + 1, .dict _, h, _ => h
/-- how long a text is at most -/
def WD : Nat → D → Nat
  | 0, _ => 0
  | _ + 1, .none => 4
  | _ + 1, .bool _ => 5
  | _ + 1, .int _ => 1921
  | _ + 1, .str _ => 20
  | k + 1, .list l => (l.map fun d => WD k d + 2).sum + 3
  | k + 1, .tuple l => (l.map fun d => WD k d + 2).sum + 3
  | _ + 1, .dict _ => 20
theorem okS_joinW : ∀ (l : List D) (f : D → Nat), (∀ d ∈ l, okS d.shown (f d)) → okS (Str.join ", " (l.map PyData.shown)) ((l.map fun d => f d + 2).sum)
  | [], _, _ => (okS_of "").mono (by simp)
  | [x], f, h => (h x (by simp)).mono (by simp)
  | x :: y :: r, f, h => by
    have ih := okS_joinW (y :: r) f fun d hd => h d (List.mem_cons_of_mem _ hd)
    have h1 := h x (by simp)
    have h2 := okS_of ", "
    have e : Str.join ", " ((x :: y :: r).map PyData.shown) = x.shown ++ (", " : String) ++ Str.join ", " ((y :: r).map PyData.shown) := join_cons_cons _ _ _ _
    rw [e]
    refine ((h1.app h2).app ih).mono ?_
    have : ", ".length = 2 := rfl
    rw [this]
    simp
theorem okS_tupleW {l : List D} {f : D → Nat} (h : ∀ d ∈ l, okS d.shown (f d)) : okS (PyData.tuple l).shown ((l.map fun d => f d + 2).sum + 3) := by
  have e : (PyData.tuple l).shown = tupleText (l.map PyData.shown) := by
    rw [← shownAll_eq]
    simp [PyData.shown]
  rw [e]
  unfold tupleText
  have e2 : okS ((if (l.map PyData.shown).length == 1 then ",)" else ")" : String) : Str) 2 := by
    split
    · exact (okS_of ",)").mono (by decide)
    · exact (okS_of ")").mono (by decide)
  refine (((okS_of "(").app (okS_joinW l f h)).app e2).mono ?_
  have : "(".length = 1 := rfl
  rw [this]
  omega
theorem okS_fromW : ∀ (l : List D) (f : D → Nat) (k : Nat) (acc : Str) (n : Nat), okS acc n → (∀ d ∈ l, okS d.shown (f d)) → okS (textFrom k acc (l.map PyData.shown)) (n + (l.map fun d => f d + 2).sum)
  | [], _, k, acc, n, h, _ => h.mono (by simp)
  | d :: l, f, k, acc, n, h, ht => by
    have h1 : okS ((if k > 0 then ", " else "" : String) : Str) 2 := by
      split
      · exact (okS_of ", ").mono (by decide)
      · exact (okS_of "").mono (by decide)
    have := okS_fromW l f (k + 1) _ _ ((h.app h1).app (ht d (by simp))) fun x hx => ht x (List.mem_cons_of_mem _ hx)
    refine okS.mono this ?_
    rw [List.map_cons, List.sum_cons]
    omega
theorem okS_listW {l : List D} {f : D → Nat} (h : ∀ d ∈ l, okS d.shown (f d)) : okS (PyData.list l).shown ((l.map fun d => f d + 2).sum + 3) := by
  have e : (PyData.list l).shown = listText (l.map PyData.shown) := by
    rw [← shownAll_eq]
    simp [PyData.shown]
  rw [e]
  unfold listText
  refine ((okS_fromW l f 0 _ _ (okS_of "[") h).app (okS_of "]")).mono ?_
  have h1 : "[".length = 1 := rfl
  have h2 : "]".length = 1 := rfl
  rw [h1, h2]
  omega
theorem okS_d0 : okS (PyData.dict []).shown 20 := by
  refine ⟨?_, ?_⟩ <;> decide +kernel
theorem okS_d1 : okS (PyData.dict [(.str "x", .int 1)]).shown 20 := by
  refine ⟨?_, ?_⟩ <;> decide +kernel
theorem szD_ok {n : Nat} (hn : n ≤ 1900) : ∀ {k : Nat} {d : D}, szD n k d → okS d.shown (WD k d) ∧ d.showable = true ∧ d.depth ≤ k + 1
  | 0, _, h => h.elim
  | k + 1, .none, _ => ⟨(Shw.none).len, rfl, by simp [PyData.depth]⟩
  | k + 1, .bool b, _ => ⟨(Shw.bool b).len, rfl, by simp [PyData.depth]⟩
  | k + 1, .int i, h => by
    have h : lg i ≤ n := h
    exact ⟨okS_int (by omega), showable_int (by omega), by simp [PyData.depth]⟩
  | k + 1, .str s, h => ⟨h, rfl, by simp [PyData.depth]⟩
  | k + 1, .list l, h => by
    have ih := fun d hd => szD_ok hn (h d hd)
    refine ⟨okS_listW fun d hd => (ih d hd).1, ?_, ?_⟩
    · simp only [PyData.showable]
      exact showableAll_iff.mpr fun d hd => (ih d hd).2.1
    · have := depthAll_le fun d hd => (ih d hd).2.2
      simp only [PyData.depth]
      omega
  | k + 1, .tuple l, h => by
    have ih := fun d hd => szD_ok hn (h d hd)
    refine ⟨okS_tupleW fun d hd => (ih d hd).1, ?_, ?_⟩
    · simp only [PyData.showable]
      exact showableAll_iff.mpr fun d hd => (ih d hd).2.1
    · have := depthAll_le fun d hd => (ih d hd).2.2
      simp only [PyData.depth]
      omega
  | k + 1, .dict kvs, h => by
    rcases h with rfl | rfl
    · exact ⟨okS_d0, by decide +kernel, by simp [PyData.depth, PyData.depthKv] <;> omega⟩
    · exact ⟨okS_d1, by decide +kernel, by simp [PyData.depth, PyData.depthKv] <;> omega⟩
end Mp

end

section
namespace Mp
open PySem PySem.Spec PyProof.Rows L2
theorem lg_sz13 {m : Nat} {w t : Rat} (h2 : m ≤ 12) (wb : Bd 2 8 w) (tb : Bd 2 8 t) : ∀ c ∈ lgL m w t, lc c ≤ 30 := fun c hc => by
  have szk : ∀ k : Nat, k ≤ 12 → Bd 1 12 ((k : Nat) : Rat) := fun k hk => ⟨k, by rw [Rat.divInt_ofNat]; simp [Rat.mkRat_one]; rfl, by omega⟩
  obtain ⟨k, hk, rfl⟩ := List.mem_map.mp hc
  have hk := List.mem_range.mp hk
  have a1 := wb.mul (szk k (by omega))
  have a2 := (szk m (by omega)).sub (szk k (by omega)) (by decide)
  have a3 := (szk k (by omega)).mul a2
  have a4 := tb.mul a3
  have b1 := a1.lq (k := 8) (m := 2) (by decide) (by decide) (by decide)
  have b2 := a4.lq (k := 12) (m := 2) (by decide) (by decide) (by decide)
  unfold lc lgC
  simp only
  omega
theorem isI_i (i : Int) : isI (.int i) = true := rfl
theorem isI_b (b : Bool) : isI (.bool b) = false := rfl
theorem isB_i (i : Int) : isB (.int i) = false := rfl
theorem isB_b (b : Bool) : isB (.bool b) = true := rfl
theorem for_relI {β : Type} {S : Sc} {T : Tg} {B : Sms} {ds : List D} (P : β → En → Prop) (step : β → D → Tn1 β) {l : List D} {σ : En} {z : R (Fl × En)} {b : β} (hz : forD (fb S T B) (ds, none) l σ = z) (hP : P b σ)
    (h : ∀ b a σ, a ∈ l → P b σ → (step b a).is P (fb S T B a σ)) : (loopR step b l).fin P z :=
  for_rel (f := id) P step (by rw [List.map_id]; exact hz) hP h
/-- three ways -/
theorem tri (d : D) : (∃ i, d = .int i) ∨ (∃ b, d = .bool b) ∨ (isI d = false ∧ isB d = false) := by cases d <;> simp [isI, isB]
/-- things of any sort -/
def oddL : List D := [.none, .bool true, .bool false, .int 0, .int 1, .int (-1), .int 7, .int 1000000000000000000000000000000, .str "", .str "x", .str "1/2", .dict [], .dict [(.str "x", .int 1)], .list [.int 0, .int 1], .list [.int 1, .int 1], .list [.tuple [.int 0, .int 1], .tuple [.int 1, .int 1]],
  .tuple [.int 0, .int 1], .tuple [.int 1, .int 1], .tuple [.int (-1), .int 1], .tuple [.int 2, .int 4], .tuple [.int 1, .int 0], .tuple [.int 1, .int (-1)], .tuple [.int 0, .int 2], .tuple [.bool true, .int 1], .tuple [.int 1, .bool true], .tuple [.int 1, .int 2, .int 3], .tuple [], .tuple [.int 1], .tuple [.none, .none],
  .tuple [.tuple [.int 0, .int 1], .tuple [.int 1, .int 1]], .tuple [.tuple [.tuple [.int 0, .int 1], .tuple [.int 0, .int 1]]], .tuple [.tuple [.str "a", .int 1], .int 2], .tuple [.str "start", .tuple [.int 0, .int 1], .tuple [.int 0, .int 1]], .tuple [.tuple [.tuple [.tuple [.int 0, .int 1]]]]]
/-- lists and tuples in it are no longer than this, to this depth -/
def wdD (w : Nat) : Nat → D → Prop
  | k + 1, .list l => l.length ≤ w ∧ ∀ d ∈ l, wdD w k d
  | k + 1, .tuple l => l.length ≤ w ∧ ∀ d ∈ l, wdD w k d
  | _, _ => True
theorem wdD.mono {w v : Nat} (hw : w ≤ v) : ∀ {k : Nat} {d : D}, wdD w k d → wdD v k d
  | 0, d, _ => by cases d <;> trivial
  | k + 1, .none, _ => trivial
  | k + 1, .bool _, _ => trivial
  | k + 1, .int _, _ => trivial
  | k + 1, .str _, _ => trivial
  | k + 1, .dict _, _ => trivial
  | k + 1, .list l, h => ⟨by have := h.1; omega, fun d hd => (h.2 d hd).mono hw⟩
  | k + 1, .tuple l, h => ⟨by have := h.1; omega, fun d hd => (h.2 d hd).mono hw⟩
/-- tame data: n the numbers' length, w the width, k the depth, W the text's length -/
structure Tm (n w k W : Nat) (d : D) : Prop where
  sz : szD n k d
  wd : wdD w k d
  tx : WD k d ≤ W
theorem WD_mono {n : Nat} : ∀ {k j : Nat} {d : D}, szD n k d → k ≤ j → WD j d = WD k d
  | 0, _, _, h, _ => h.elim
  | _ + 1, 0, _, _, h => by omega
  | k + 1, j + 1, .none, _, _ => rfl
  | k + 1, j + 1, .bool _, _, _ => rfl
  | k + 1, j + 1, .int i, h, _ => rfl
  | k + 1, j + 1, .str s, h, _ => rfl
  | k + 1, j + 1, .list l, h, hj => by
    show (l.map fun d => WD j d + 2).sum + 3 = (l.map fun d => WD k d + 2).sum + 3
    rw [List.map_congr_left fun d hd => by rw [WD_mono (h d hd) (by omega)]]
  | k + 1, j + 1, .tuple l, h, hj => by
    show (l.map fun d => WD j d + 2).sum + 3 = (l.map fun d => WD k d + 2).sum + 3
    rw [List.map_congr_left fun d hd => by rw [WD_mono (h d hd) (by omega)]]
  | k + 1, j + 1, .dict _, h, _ => rfl
theorem wdD_deep {n w : Nat} : ∀ {k j : Nat} {d : D}, szD n k d → wdD w k d → k ≤ j → wdD w j d
  | 0, _, _, h, _, _ => h.elim
  | _ + 1, 0, _, _, _, h => by omega
  | k + 1, j + 1, .none, _, _, _ => trivial
  | k + 1, j + 1, .bool _, _, _, _ => trivial
  | k + 1, j + 1, .int i, h, _, _ => trivial
  | k + 1, j + 1, .str s, h, _, _ => trivial
  | k + 1, j + 1, .list l, h, q, hj => ⟨q.1, fun d hd => wdD_deep (h d hd) (q.2 d hd) (by omega)⟩
  | k + 1, j + 1, .tuple l, h, q, hj => ⟨q.1, fun d hd => wdD_deep (h d hd) (q.2 d hd) (by omega)⟩
  | k + 1, j + 1, .dict _, h, _, _ => trivial
theorem Tm.mono {n w k W n' w' k' W' : Nat} {d : D} (h : Tm n w k W d) (hn : n ≤ n') (hw : w ≤ w') (hk : k ≤ k') (hW : W ≤ W') : Tm n' w' k' W' d :=
  ⟨h.sz.mono hn hk, (wdD_deep h.sz h.wd hk).mono hw, by rw [WD_mono h.sz hk]; have := h.tx; omega⟩
theorem Tm.int {n w W : Nat} {i : Int} (h : lg i ≤ n) (hW : 1921 ≤ W) : Tm n w 1 W (.int i) := ⟨h, trivial, hW⟩
theorem Tm.bool {n w W : Nat} (b : Bool) (hW : 5 ≤ W) : Tm n w 1 W (.bool b) := ⟨trivial, trivial, hW⟩
def sumW (k : Nat) (l : List D) : Nat := (l.map fun d => WD k d + 2).sum
theorem sumW_app (k : Nat) (l m : List D) : sumW k (l ++ m) = sumW k l + sumW k m := by
  unfold sumW
  rw [List.map_append, List.sum_append]
theorem sumW_cons (k : Nat) (d : D) (l : List D) : sumW k (d :: l) = WD k d + 2 + sumW k l := by
  unfold sumW
  rw [List.map_cons, List.sum_cons]
theorem sumW_split (k : Nat) (l : List D) (i : Nat) : sumW k (l.take i) + sumW k (l.drop i) = sumW k l := by
  rw [← sumW_app, List.take_append_drop]
theorem sumW_mem {k : Nat} {l : List D} {d : D} (h : d ∈ l) : WD k d + 2 ≤ sumW k l := by
  obtain ⟨a, b, rfl⟩ := List.append_of_mem h
  rw [sumW_app, sumW_cons]
  omega
theorem Tm.tuple {n w k W : Nat} {l : List D} (hs : ∀ d ∈ l, szD n k d) (hd : ∀ d ∈ l, wdD w k d) (hl : l.length ≤ w) (hW : sumW k l + 3 ≤ W) : Tm n w (k + 1) W (.tuple l) := ⟨hs, ⟨hl, hd⟩, hW⟩
theorem Tm.list {n w k W : Nat} {l : List D} (hs : ∀ d ∈ l, szD n k d) (hd : ∀ d ∈ l, wdD w k d) (hl : l.length ≤ w) (hW : sumW k l + 3 ≤ W) : Tm n w (k + 1) W (.list l) := ⟨hs, ⟨hl, hd⟩, hW⟩
theorem Tm.repr {n w k W : Nat} {d : D} (h : Tm n w k W d) (hn : n ≤ 1900) (hk : k ≤ 99) (hW : W ≤ 16000000) : ∃ t : Str, biD .repr [d] = some (.val (.str t)) ∧ eqD (.str t) (.str t) = some true := by
  obtain ⟨h1, h2, h3⟩ := szD_ok hn h.sz
  have h4 := h.tx
  refine ⟨d.shown, ?_, eqD_texts h1.2 h1.2 (p := True) (by simp)⟩
  show ned (d.showable && decide (d.depth ≤ 100) && okLen d.shown.length) _ = _
  have : okLen d.shown.length = true := decide_eq_true (by rw [sizeLine_eq]; have := h1.1; omega)
  rw [h2, decide_eq_true (by omega), this]
  rfl
/-- a tuple of tame things -/
theorem Tm.tup {n w k W : Nat} {l : List D} (h : ∀ d ∈ l, Tm n w k W d) (hl : l.length ≤ w) : Tm n w (k + 1) (l.length * (W + 2) + 3) (.tuple l) := by
  refine Tm.tuple (fun d hd => (h d hd).sz) (fun d hd => (h d hd).wd) hl ?_
  have : ∀ l : List D, (∀ d ∈ l, WD k d ≤ W) → sumW k l ≤ l.length * (W + 2) := fun l => by
    induction l with
    | nil => intro _; simp [sumW]
    | cons d l ih =>
      intro h
      have := ih fun e he => h e (List.mem_cons_of_mem _ he)
      have := h d (by simp)
      rw [sumW_cons, List.length_cons, Nat.add_mul]
      omega
  have := this l fun d hd => (h d hd).tx
  omega
theorem Tm.fr {n w : Nat} {q : Rat} (h1 : ln q ≤ n) (h2 : ld q ≤ n) (hw : 2 ≤ w) : Tm n w 2 3849 (fr q) :=
  (Tm.tup (n := n) (w := w) (k := 1) (W := 1921) (l := [.int q.num, .int (q.den : Nat)]) (fun d hd => by
    rcases List.mem_cons.mp hd with rfl | hd
    · exact Tm.int h1 (Nat.le_refl _)
    · rw [List.mem_singleton.mp hd]
      exact Tm.int h2 (Nat.le_refl _)) (by simpa using hw)).mono (Nat.le_refl _) (Nat.le_refl _) (Nat.le_refl _) (by simp)
theorem Tm.cn {n w : Nat} {c : Rat × Rat} (h : lc c ≤ n) (hw : 2 ≤ w) : Tm n w 3 7705 (cn c) := by
  unfold lc at h
  rw [lq_nd, lq_nd] at h
  exact (Tm.tup (n := n) (w := w) (k := 2) (W := 3849) (l := [Mp.fr c.1, Mp.fr c.2]) (fun d hd => by
    rcases List.mem_cons.mp hd with rfl | hd
    · exact Tm.fr (by omega) (by omega) hw
    · rw [List.mem_singleton.mp hd]
      exact Tm.fr (by omega) (by omega) hw) (by simpa using hw)).mono (Nat.le_refl _) (Nat.le_refl _) (Nat.le_refl _) (by simp)
theorem Tm.KD {n w : Nat} {L : List (Rat × Rat)} (h : ∀ c ∈ L, lc c ≤ n) (hw : 2 ≤ w) (hl : L.length ≤ w) (hl2 : L.length ≤ 13) : Tm n w 4 100194 (KD L) :=
  (Tm.tup (n := n) (w := w) (k := 3) (W := 7705) (l := L.map Mp.cn) (fun d hd => by
    obtain ⟨c, hc, rfl⟩ := List.mem_map.mp hd
    exact Tm.cn (h c hc) hw) (by simpa using hl)).mono (Nat.le_refl _) (Nat.le_refl _) (Nat.le_refl _) (by rw [List.length_map]; omega)
def tmB (n w : Nat) : Nat → D → Bool
  | 0, _ => false
  | _ + 1, .none => true
  | _ + 1, .bool _ => true
  | _ + 1, .int i => decide (lg i ≤ n)
  | _ + 1, .str s => decide ((PyData.str s).shown.length ≤ 20) && PyData.strOk (PyData.str s).shown
  | k + 1, .list l => decide (l.length ≤ w) && l.attach.all fun d => tmB n w k d.1
  | k + 1, .tuple l => decide (l.length ≤ w) && l.attach.all fun d => tmB n w k d.1
  | _ + 1, .dict kvs => match kvs with
    | [] => true
    | [(.str s, .int i)] => decide (s = ("x" : Str)) && decide (i = 1)
    | _ => false
theorem tmB_ok {n w : Nat} : ∀ {k : Nat} {d : D}, tmB n w k d = true → szD n k d ∧ wdD w k d
  | 0, _, h => nomatch h
  | _ + 1, .none, _ => ⟨trivial, trivial⟩
  | _ + 1, .bool _, _ => ⟨trivial, trivial⟩
  | _ + 1, .int i, h => by
    have h : decide (lg i ≤ n) = true := h
    exact ⟨show lg i ≤ n from of_decide_eq_true h, trivial⟩
  | _ + 1, .str s, h => by
    have h : (decide ((PyData.str s).shown.length ≤ 20) && PyData.strOk (PyData.str s).shown) = true := h
    rw [Bool.and_eq_true, decide_eq_true_eq] at h
    exact ⟨h, trivial⟩
  | k + 1, .list l, h => by
    have h : (decide (l.length ≤ w) && l.attach.all fun d => tmB n w k d.1) = true := h
    rw [Bool.and_eq_true, decide_eq_true_eq, List.all_eq_true] at h
    have q := fun d hd => tmB_ok (h.2 ⟨d, hd⟩ (List.mem_attach _ _))
    exact ⟨fun d hd => (q d hd).1, h.1, fun d hd => (q d hd).2⟩
  | k + 1, .tuple l, h => by
    have h : (decide (l.length ≤ w) && l.attach.all fun d => tmB n w k d.1) = true := h
    rw [Bool.and_eq_true, decide_eq_true_eq, List.all_eq_true] at h
    have q := fun d hd => tmB_ok (h.2 ⟨d, hd⟩ (List.mem_attach _ _))
    exact ⟨fun d hd => (q d hd).1, h.1, fun d hd => (q d hd).2⟩
  | _ + 1, .dict kvs, h => by
    refine ⟨?_, trivial⟩
    unfold tmB at h
    split at h
    · exact .inl rfl
    · rw [Bool.and_eq_true, decide_eq_true_eq, decide_eq_true_eq] at h
      obtain ⟨rfl, rfl⟩ := h
      exact .inr rfl
    · cases h
theorem oddL_tm : ∀ d ∈ oddL, Tm 110 13 5 12000 d := by
  have h : (oddL.all fun d => tmB 110 13 5 d && decide (WD 5 d ≤ 12000)) = true := by decide +kernel
  intro d hd
  have := List.all_eq_true.mp h d hd
  rw [Bool.and_eq_true, decide_eq_true_eq] at this
  exact ⟨(tmB_ok this.1).1, (tmB_ok this.1).2, this.2⟩
end Mp

end

section
namespace Mp
open PySem PySem.Spec PyProof.Rows L2
theorem p30 : binD .pow (.int 10) (.int 30) = some (.val (.int 1000000000000000000000000000000)) := by
  show ned (decide (0 ≤ (30 : Int) ∧ (30 : Int) ≤ 1000000 ∧ (10 : Int).natAbs < 2 ^ 64)) _ = _
  rw [decide_eq_true (by decide)]
  rfl
theorem getD_mem {l : List D} {i : Int} (h0 : 0 ≤ i) (h : i < l.length) : l.getD i.toNat .none ∈ l := by
  have : i.toNat < l.length := by omega
  rw [List.getD_eq_getElem?_getD, List.getElem?_eq_getElem this]
  exact List.getElem_mem _
theorem sumW_take (k : Nat) (l : List D) (i : Nat) : sumW k (l.take i) ≤ sumW k l := by
  have := sumW_split k l i
  omega
theorem sumW_drop (k : Nat) (l : List D) (i : Nat) : sumW k (l.drop i) ≤ sumW k l := by
  have := sumW_split k l i
  omega
theorem sumW_at (k : Nat) (l : List D) {i : Nat} (h : i < l.length) : sumW k (l.take i) + (WD k l[i] + 2) + sumW k (l.drop (i + 1)) = sumW k l := by
  have h1 := sumW_split k l i
  rw [List.drop_eq_getElem_cons h, sumW_cons] at h1
  omega
/-- what is made of a row by a change at one place -/
structure Chg (l : List D) (x : D) (m : List D) : Prop where
  mem : ∀ d ∈ m, d ∈ l ∨ d = x
  len : m.length ≤ l.length + 1
  sum : ∀ k, sumW k m ≤ 2 * sumW k l + WD k x + 2
theorem chg_put {l : List D} {x : D} {i j : Nat} (hi : i ≤ j) (hj : i + 1 ≤ j ∨ i = j) : Chg l x (l.take i ++ x :: l.drop j) := by
  refine ⟨fun d hd => ?_, ?_, fun k => ?_⟩
  · rcases List.mem_append.mp hd with hd | hd
    · exact .inl (List.mem_of_mem_take hd)
    · rcases List.mem_cons.mp hd with rfl | hd
      · exact .inr rfl
      · exact .inl (List.mem_of_mem_drop hd)
  · simp
    omega
  · rw [sumW_app, sumW_cons]
    have := sumW_take k l i
    have := sumW_drop k l j
    omega
theorem chg_out {l : List D} {x : D} {i : Nat} : Chg l x (l.take i ++ l.drop (i + 1)) := by
  refine ⟨fun d hd => ?_, ?_, fun k => ?_⟩
  · rcases List.mem_append.mp hd with hd | hd
    · exact .inl (List.mem_of_mem_take hd)
    · exact .inl (List.mem_of_mem_drop hd)
  · simp
    omega
  · rw [sumW_app]
    have := sumW_take k l i
    have := sumW_drop k l (i + 1)
    omega
theorem chg_swap {l : List D} {x : D} {i : Nat} (h : i + 1 < l.length) : Chg l x (l.take i ++ l[i + 1] :: l[i] :: l.drop (i + 2)) := by
  refine ⟨fun d hd => ?_, ?_, fun k => ?_⟩
  · rcases List.mem_append.mp hd with hd | hd
    · exact .inl (List.mem_of_mem_take hd)
    · rcases List.mem_cons.mp hd with rfl | hd
      · exact .inl (List.getElem_mem _)
      · rcases List.mem_cons.mp hd with rfl | hd
        · exact .inl (List.getElem_mem _)
        · exact .inl (List.mem_of_mem_drop hd)
  · simp
    omega
  · rw [sumW_app, sumW_cons, sumW_cons]
    have h1 := sumW_at k l (i := i) (by omega)
    have h2 := sumW_at k l h
    have := sumW_take k l i
    have e : sumW k (l.drop (i + 2)) ≤ sumW k (l.drop (i + 1)) := by
      rw [show i + 2 = (i + 1) + 1 by omega, ← List.drop_drop]
      exact sumW_drop k _ _
    omega
theorem chg_twice {l : List D} {x : D} {i : Nat} (h : i < l.length) : Chg l x (l.take i ++ l[i] :: l[i] :: l.drop (i + 1)) := by
  refine ⟨fun d hd => ?_, ?_, fun k => ?_⟩
  · rcases List.mem_append.mp hd with hd | hd
    · exact .inl (List.mem_of_mem_take hd)
    · rcases List.mem_cons.mp hd with rfl | hd
      · exact .inl (List.getElem_mem _)
      · rcases List.mem_cons.mp hd with rfl | hd
        · exact .inl (List.getElem_mem _)
        · exact .inl (List.mem_of_mem_drop hd)
  · simp
    omega
  · rw [sumW_app, sumW_cons, sumW_cons]
    have h1 := sumW_at k l h
    omega
theorem Tm.items {n w k W : Nat} {l : List D} (h : Tm n w k W (.tuple l)) : ∃ j, k = j + 1 ∧ (∀ d ∈ l, szD n j d) ∧ (∀ d ∈ l, wdD w j d) ∧ l.length ≤ w ∧ sumW j l + 3 ≤ W := by
  cases k with
  | zero => exact h.sz.elim
  | succ j => exact ⟨j, rfl, h.sz, h.wd.2, h.wd.1, h.tx⟩
theorem Tm.fr_sz {n w k W : Nat} {q : Rat} (h : Tm n w k W (Mp.fr q)) : ln q ≤ n ∧ ld q ≤ n := by
  obtain ⟨j, rfl, h1, _⟩ := h.items
  have a := h1 (.int q.num) (by simp)
  have b := h1 (.int (q.den : Nat)) (by simp)
  cases j with
  | zero => exact a.elim
  | succ j => exact ⟨a, b⟩
theorem Tm.KD_sz {n w k W : Nat} {L : List (Rat × Rat)} (h : Tm n w k W (Mp.KD L)) : ∀ c ∈ L, lc c ≤ 4 * n := fun c hc => by
  obtain ⟨j, rfl, h1, h2, h3, h4⟩ := h.items
  have a := h1 _ (List.mem_map_of_mem hc)
  have t : Tm n w j (WD j (Mp.cn c)) (Mp.cn c) := ⟨a, h2 _ (List.mem_map_of_mem hc), Nat.le_refl _⟩
  obtain ⟨i, rfl, b1, b2, b3, b4⟩ := t.items
  have c1 : Tm n w i (WD i (Mp.fr c.1)) (Mp.fr c.1) := ⟨b1 _ (by simp), b2 _ (by simp), Nat.le_refl _⟩
  have c2 : Tm n w i (WD i (Mp.fr c.2)) (Mp.fr c.2) := ⟨b1 _ (by simp), b2 _ (by simp), Nat.le_refl _⟩
  have d1 := c1.fr_sz
  have d2 := c2.fr_sz
  unfold lc
  rw [lq_nd, lq_nd]
  omega
theorem Tm.of {n w k : Nat} {d : D} (h1 : szD n k d) (h2 : wdD w k d) : Tm n w k (WD k d) d := ⟨h1, h2, Nat.le_refl _⟩
theorem all1 {P : D → Prop} {a : D} (h : P a) : ∀ d ∈ [a], P d := by simpa using h
theorem all2 {P : D → Prop} {a b : D} (h : P a) (h2 : P b) : ∀ d ∈ [a, b], P d := by simpa using ⟨h, h2⟩
theorem all3 {P : D → Prop} {a b c : D} (h : P a) (h2 : P b) (h3 : P c) : ∀ d ∈ [a, b, c], P d := by simpa using ⟨h, h2, h3⟩
theorem bi_list_t (l : List D) : biD .list [.tuple l] = some (.own l) := rfl
theorem bi_list_l (l : List D) : biD .list [.list l] = some (.own l) := rfl
theorem cut_t1 (a b : D) : Mp.cutD [a, b] none (some 1) = [a] := by
  have := cutD_take [a, b] 1 (by simp)
  simpa using this
theorem ixD_3 (a b c d e : D) : ixD [a, b, c, d, e] 3 = some d := rfl
theorem ixD_4 (a b c d e : D) : ixD [a, b, c, d, e] 4 = some e := rfl
theorem fr_17 : (.tuple [.int 1, .int 7] : D) = fr (Rat.divInt 1 7) := by
  unfold fr
  rw [show (Rat.divInt 1 7).num = 1 by decide +kernel, show (Rat.divInt 1 7).den = 7 by decide +kernel]
  rfl
theorem fr_m17 : (.tuple [.int (-1), .int 7] : D) = fr (Rat.divInt (-1) 7) := by
  unfold fr
  rw [show (Rat.divInt (-1) 7).num = -1 by decide +kernel, show (Rat.divInt (-1) 7).den = 7 by decide +kernel]
  rfl
end Mp

end

section
namespace Mp
open PySem PySem.Spec PyProof.Rows L2
/-! ### counts: corners in order, straight between -/
def rt (c d : Rat × Rat) : Rat := (d.2 - c.2) / (d.1 - c.1)
def ahd (p : Rat × Rat) : List (Rat × Rat) → Rat
  | [] => 0
  | d :: _ => rt p d
/-- corners behind p without those at which the rate stays -/
def tdy : Rat × Rat → List (Rat × Rat) → List (Rat × Rat)
  | _, [] => []
  | p, c :: r => if rt p c = ahd c r then tdy p r else c :: tdy c r
def tidy : List (Rat × Rat) → List (Rat × Rat)
  | [] => []
  | c :: r => c :: tdy c r
/-- moments ascending, numbers never less -/
def Asc2 (L : List (Rat × Rat)) : Prop := L.Pairwise fun a b => a.1 < b.1 ∧ a.2 ≤ b.2
theorem tdy_sub : ∀ (r : List (Rat × Rat)) (p : Rat × Rat), (tdy p r).Sublist r
  | [], _ => by unfold tdy; exact List.Sublist.slnil
  | c :: r, p => by
    unfold tdy
    split
    · exact (tdy_sub r p).trans (List.sublist_cons_self _ _)
    · exact (tdy_sub r c).cons₂ c
theorem tidy_sub (L : List (Rat × Rat)) : (tidy L).Sublist L := by
  cases L with
  | nil => exact List.Sublist.slnil
  | cons c r => exact (tdy_sub r c).cons₂ c
theorem Asc2.tidy {L : List (Rat × Rat)} (h : Asc2 L) : Asc2 (Mp.tidy L) := h.sublist (tidy_sub L)
def Up (L : List (Rat × Rat)) : Prop := L.Pairwise fun a b => a.1 < b.1
theorem Asc2.up {L : List (Rat × Rat)} (h : Asc2 L) : Up L := h.imp fun z => z.1
theorem div_of {a b k : Rat} (hb : b ≠ 0) (h : a = k * b) : a / b = k := by
  rw [h, Rat.div_def, Rat.mul_assoc, Rat.mul_inv_cancel _ hb, Rat.mul_one]
theorem of_div {a b k : Rat} (hb : b ≠ 0) (h : a / b = k) : a = k * b := by
  rw [← h, Rat.div_def, Rat.mul_assoc, Rat.inv_mul_cancel _ hb, Rat.mul_one]
theorem rt_step {p c d : Rat × Rat} (h1 : p.1 < c.1) (h2 : c.1 < d.1) (h : rt p c = rt c d) : rt p d = rt p c := by
  unfold rt at *
  have a : c.1 - p.1 ≠ 0 := by grind
  have b : d.1 - c.1 ≠ 0 := by grind
  have e : d.1 - p.1 ≠ 0 := by grind
  generalize hk : (c.2 - p.2) / (c.1 - p.1) = k at *
  have e1 := of_div a hk
  have e2 := of_div b h.symm
  apply div_of e
  grind
theorem ahd_tdy : ∀ (r : List (Rat × Rat)) (p : Rat × Rat), Up (p :: r) → ahd p (tdy p r) = ahd p r
  | [], _, _ => by unfold tdy; rfl
  | c :: r, p, h => by
    unfold tdy
    split
    · rename_i q
      have h1 : Up (p :: r) := h.sublist ((List.sublist_cons_self c r).cons₂ p)
      rw [ahd_tdy r p h1]
      cases r with
      | nil => exact q.symm
      | cons d r =>
        have h2 : p.1 < c.1 := (List.pairwise_cons.mp h).1 c (by simp)
        have h3 : c.1 < d.1 := (List.pairwise_cons.mp (List.pairwise_cons.mp h).2).1 d (by simp)
        exact rt_step h2 h3 q
    · rfl
theorem tdy_tdy : ∀ (r : List (Rat × Rat)) (p : Rat × Rat), Up (p :: r) → tdy p (tdy p r) = tdy p r
  | [], _, _ => by unfold tdy; rfl
  | c :: r, p, h => by
    have h1 : Up (p :: r) := h.sublist ((List.sublist_cons_self c r).cons₂ p)
    have h2 : Up (c :: r) := (List.pairwise_cons.mp h).2
    by_cases q : rt p c = ahd c r
    · have e : tdy p (c :: r) = tdy p r := by rw [tdy, if_pos q]
      rw [e]
      exact tdy_tdy r p h1
    · have e : tdy p (c :: r) = c :: tdy c r := by rw [tdy, if_neg q]
      rw [e, tdy, ahd_tdy r c h2, if_neg q, tdy_tdy r c h2]
theorem tidy_tidy {L : List (Rat × Rat)} (h : Up L) : tidy (tidy L) = tidy L := by
  cases L with
  | nil => rfl
  | cons c r =>
    show c :: tdy c (tdy c r) = c :: tdy c r
    rw [tdy_tdy r c h]
/-- the number of counts at a moment -/
def cntG (m : Rat) : Rat × Rat → List (Rat × Rat) → Rat
  | p, [] => p.2
  | p, c :: r => if m < c.1 then p.2 + rt p c * (m - p.1) else cntG m c r
def cnt (L : List (Rat × Rat)) (m : Rat) : Rat := match L with
  | [] => 0
  | c :: r => cntG m c r
/-- the same, as the law reckons -/
def cntL (m : Rat) : Rat × Rat → List (Rat × Rat) → Rat
  | p, [] => p.2
  | p, c :: r => if m ≤ c.1 then p.2 + (m - p.1) / (c.1 - p.1) * (c.2 - p.2) else cntL m c r
theorem cntG_at : ∀ (r : List (Rat × Rat)) (p : Rat × Rat), Up (p :: r) → cntG p.1 p r = p.2
  | [], _, _ => rfl
  | c :: r, p, h => by
    have h2 : p.1 < c.1 := (List.pairwise_cons.mp h).1 c (by simp)
    rw [cntG, if_pos h2]
    grind
theorem cntL_eq : ∀ (r : List (Rat × Rat)) (p : Rat × Rat) (m : Rat), Up (p :: r) → cntL m p r = cntG m p r
  | [], _, _, _ => rfl
  | c :: r, p, m, h => by
    have h2 : p.1 < c.1 := (List.pairwise_cons.mp h).1 c (by simp)
    have h1 : Up (c :: r) := (List.pairwise_cons.mp h).2
    have a : c.1 - p.1 ≠ 0 := by grind
    unfold cntL cntG
    by_cases q : m < c.1
    · rw [if_pos (by grind), if_pos q]
      unfold rt
      rw [Rat.div_def, Rat.div_def]
      grind
    · by_cases q2 : m ≤ c.1
      · have e : m = c.1 := by grind
        rw [if_pos q2, if_neg q, e, cntG_at r c h1, div_of (k := 1) a (by grind)]
        grind
      · rw [if_neg q2, if_neg q]
        exact cntL_eq r c m h1
/-- the first moment at which counts reach a number -/
def rchG (x : Rat) : Rat × Rat → List (Rat × Rat) → Option Rat
  | _, [] => none
  | p, c :: r => if c.2 < x then rchG x c r else some (p.1 + (x - p.2) / rt p c)
def rchL (x : Rat) : Rat × Rat → List (Rat × Rat) → Option Rat
  | _, [] => none
  | p, c :: r => if x ≤ c.2 then some (p.1 + (x - p.2) / (c.2 - p.2) * (c.1 - p.1)) else rchL x c r
theorem div_posR {a b : Rat} (h : 0 < a) (k : 0 < b) : 0 < a / b := by
  rw [Rat.div_def]
  exact Rat.mul_pos h (Rat.inv_pos.mpr k)
theorem rt_ne {p c : Rat × Rat} (h1 : p.1 < c.1) (h2 : p.2 < c.2) : 0 < rt p c := by
  unfold rt
  have a : 0 < c.2 - p.2 := by grind
  have b : 0 < c.1 - p.1 := by grind
  exact div_posR a b
theorem rchL_eq : ∀ (r : List (Rat × Rat)) (p : Rat × Rat) (x : Rat), Up (p :: r) → p.2 < x → rchL x p r = rchG x p r
  | [], _, _, _, _ => rfl
  | c :: r, p, x, h, hx => by
    have h2 : p.1 < c.1 := (List.pairwise_cons.mp h).1 c (by simp)
    have h1 : Up (c :: r) := (List.pairwise_cons.mp h).2
    unfold rchL rchG
    by_cases q : c.2 < x
    · rw [if_pos q, if_neg (by grind)]
      exact rchL_eq r c x h1 q
    · rw [if_neg q, if_pos (by grind)]
      have a : c.1 - p.1 ≠ 0 := by grind
      have b : c.2 - p.2 ≠ 0 := by grind
      congr 2
      symm
      have k := rt_ne h2 (show p.2 < c.2 by grind)
      apply div_of (by grind)
      unfold rt
      rw [Rat.div_def, Rat.div_def]
      have e1 := Rat.mul_inv_cancel _ a
      have e2 := Rat.mul_inv_cancel _ b
      grind
def rch (L : List (Rat × Rat)) (x : Rat) : Option Rat := match L with
  | [] => none
  | c :: r => if c.2 < x then rchG x c r else some c.1
/-- what is said of the first moment -/
theorem rchG_ok : ∀ (r : List (Rat × Rat)) (p : Rat × Rat) (x t : Rat), Asc2 (p :: r) → p.2 < x → rchG x p r = some t → p.1 < t ∧ cntG t p r = x ∧ ∀ m, p.1 ≤ m → m < t → cntG m p r < x
  | [], _, _, _, _, _, h => by cases h
  | c :: r, p, x, t, h, hx, e => by
    have h2 := (List.pairwise_cons.mp h).1 c (by simp)
    have h1 : Asc2 (c :: r) := (List.pairwise_cons.mp h).2
    unfold rchG at e
    by_cases q : c.2 < x
    · rw [if_pos q] at e
      obtain ⟨k1, k2, k3⟩ := rchG_ok r c x t h1 q e
      refine ⟨by grind, ?_, fun m m0 m1 => ?_⟩
      · rw [cntG, if_neg (by grind)]
        exact k2
      · rw [cntG]
        split
        · rename_i z
          have a : 0 < c.1 - p.1 := by grind
          have b : 0 ≤ rt p c := by
            unfold rt
            rw [Rat.div_def]
            exact Rat.mul_nonneg (by grind) (by have := Rat.inv_pos.mpr a; grind)
          have e1 : c.2 - p.2 = rt p c * (c.1 - p.1) := of_div (by grind) rfl
          have := Rat.mul_le_mul_of_nonneg_left (c := rt p c) (a := m - p.1) (b := c.1 - p.1) (by grind) b
          grind
        · exact k3 m (by grind) m1
    · rw [if_neg q] at e
      have k := rt_ne h2.1 (show p.2 < c.2 by grind)
      have e1 : c.2 - p.2 = rt p c * (c.1 - p.1) := of_div (by grind) rfl
      generalize hk : rt p c = w at *
      have e := Option.some.inj e
      have e2 : x - p.2 = (t - p.1) * w := of_div (by grind) (by grind)
      have lt : 0 < (x - p.2) / w := div_posR (by grind) k
      have le : t ≤ c.1 := by
        apply Classical.byContradiction
        intro z
        have z : c.1 < t := by grind
        have := Rat.mul_lt_mul_of_pos_left (c := w) (a := c.1 - p.1) (b := t - p.1) (by grind) k
        grind
      refine ⟨by grind, ?_, fun m m0 m1 => ?_⟩
      · by_cases z : t < c.1
        · rw [cntG, if_pos z, hk]
          grind
        · have z : t = c.1 := by grind
          rw [cntG, if_neg (by grind), z, cntG_at r c h1.up]
          grind
      · rw [cntG, if_pos (by grind), hk]
        have := Rat.mul_lt_mul_of_pos_left (c := w) (a := m - p.1) (b := t - p.1) (by grind) k
        grind
end Mp

end

section
namespace Mp
open PySem PySem.Spec PyProof.Rows L2
@[simp] theorem ex_zipL (a b c d : Pos) (xs ys : List D) : extD (.zipL a b c d) [.tuple xs, .tuple ys] = if xs.length ≤ 1000000 then some (.own (zipD xs ys)) else none := rfl
theorem rng1_map (n : Nat) : rngD 1 (n : Nat) = (List.range (n - 1)).map fun k => .int ((k : Int) + 1) := by
  unfold rngD
  have e : ((n : Int) - 1).toNat = n - 1 := by omega
  rw [e]
  apply List.map_congr_left
  intro k _
  congr 1
  omega
theorem range_at {n a : Nat} {done rest : List Nat} (h : List.range n = done ++ a :: rest) : a = done.length ∧ done.length < n := by
  have h1 : (List.range n)[done.length]? = some a := by rw [h]; simp
  have h2 := List.getElem?_eq_some_iff.mp h1
  obtain ⟨h3, h4⟩ := h2
  rw [List.getElem_range] at h4
  rw [List.length_range] at h3
  exact ⟨h4.symm, h3⟩
theorem shaped_cn (c : Rat × Rat) : (cn c).canLay0 = true ∧ (cn c).depth ≤ 3 := by
  unfold cn fr
  simp [PyData.canLay0, PyData.canLayAll0, PyData.depth, PyData.depthAll]
theorem shaped_KD (L : List (Rat × Rat)) : SeqAt.shaped (KD L) = true := by
  have h1 : ∀ L : List (Rat × Rat), PyData.canLayAll0 (L.map cn) = true := fun L => by
    induction L with
    | nil => rfl
    | cons c l ih => simp [PyData.canLayAll0, (shaped_cn c).1, ih]
  have h2 : ∀ L : List (Rat × Rat), PyData.depthAll (L.map cn) ≤ 3 := fun L => by
    induction L with
    | nil => exact Nat.zero_le _
    | cons c l ih =>
      have := (shaped_cn c).2
      simp only [List.map_cons, PyData.depthAll]
      omega
  have := h2 L
  have e : PyData.depth (KD L) = PyData.depthAll (L.map cn) + 1 := rfl
  have e2 : (KD L).canLay0 = PyData.canLayAll0 (L.map cn) := rfl
  unfold SeqAt.shaped
  rw [e2, h1 L, e]
  simp
  omega
theorem eqvAll_cn : ∀ (L M : List (Rat × Rat)), PyData.eqvAll (L.map cn) (M.map cn) = decide (L = M)
  | [], [] => by simp [PyData.eqvAll]
  | [], _ :: _ => by simp [PyData.eqvAll]
  | _ :: _, [] => by simp [PyData.eqvAll]
  | a :: L, b :: M => by
    have h := eqD_cn a b
    rw [eq_of (by unfold cn fr; simp [SeqAt.shaped, PyData.canLay0, PyData.canLayAll0, PyData.depth, PyData.depthAll]) (by unfold cn fr; simp [SeqAt.shaped, PyData.canLay0, PyData.canLayAll0, PyData.depth, PyData.depthAll])] at h
    have h := Option.some.inj h
    simp only [List.map_cons, PyData.eqvAll, h, eqvAll_cn L M]
    by_cases h1 : a = b <;> by_cases h2 : L = M <;> simp [h1, h2]
theorem eqD_KD (L M : List (Rat × Rat)) : eqD (KD L) (KD M) = some (decide (L = M)) := by
  rw [eq_of (shaped_KD L) (shaped_KD M)]
  have : PyData.eqv (KD L) (KD M) = PyData.eqvAll (L.map cn) (M.map cn) := by simp [PyData.eqv]
  rw [this, eqvAll_cn]
theorem sm62 {i : Int} (h0 : 0 ≤ i) (h1 : i ≤ 1000000) : small62 i = true := decide_eq_true ⟨by omega, by omega⟩
theorem tdy_drop {L : List (Rat × Rat)} {k : Nat} (h : k + 1 < L.length) (p : Rat × Rat) : tdy p (L.drop (k + 1)) = if rt p L[k + 1] = ahd L[k + 1] (L.drop (k + 2)) then tdy p (L.drop (k + 2)) else L[k + 1] :: tdy L[k + 1] (L.drop (k + 2)) := by
  rw [List.drop_eq_getElem_cons h, tdy]
theorem getLastD_snoc {α : Type} (l : List α) (a d : α) : (l ++ [a]).getLastD d = a := by
  rw [List.getLastD_eq_getLast?]
  simp
theorem getLastD_in {α : Type} {l : List α} (h : l ≠ []) (d : α) : l.getLastD d ∈ l := by
  rw [List.getLastD_eq_getLast?, List.getLast?_eq_some_getLast h]
  exact List.getLast_mem h
theorem drop_in {α : Type} {L : List α} {k : Nat} {a : α} (h : a ∈ L.drop k) : a ∈ L := List.mem_of_mem_drop h
theorem Up.at {L : List (Rat × Rat)} (h : Up L) {i j : Nat} (hij : i < j) (hj : j < L.length) : (L[i]'(by omega)).1 < L[j].1 := List.pairwise_iff_getElem.mp h i j (by omega) hj hij
/-- counts as the program takes them -/
structure Cts (L : List (Rat × Rat)) : Prop where
  fst : ∃ f l, L = (0, f) :: l
  asc : Asc2 L
  td : tidy L = L
  sz : ∀ c ∈ L, lc c ≤ 60
  len : L.length ≤ 10
  sh : ∀ c ∈ L, lq c.1 ≤ 9 ∧ lq c.2 ≤ 17
theorem Cts.ne {L : List (Rat × Rat)} (h : Cts L) : L ≠ [] := by
  obtain ⟨f, l, e⟩ := h.fst
  rw [e]
  simp
theorem prs_pair {α : Type} {R : α → α → Prop} {L : List α} (h : L.Pairwise R) : ∀ p ∈ prs L, R p.1 p.2 := by
  induction L with
  | nil => intro p hp; cases hp
  | cons a l ih =>
    cases l with
    | nil => intro p hp; cases hp
    | cons b l =>
      intro p hp
      rw [prs_cons, List.mem_cons] at hp
      rcases hp with rfl | hp
      · exact (List.pairwise_cons.mp h).1 b (by simp)
      · exact ih (List.pairwise_cons.mp h).2 p hp
theorem rt_lq {a b : Rat × Rat} (h : a.1 < b.1) : lq (rt a b) ≤ 2 * lc a + 2 * lc b + 2 := by
  have h1 := lq_sub b.2 a.2
  have h2 := lq_sub b.1 a.1
  have h3 := lq_div (a := b.2 - a.2) (b := b.1 - a.1) (by grind)
  unfold rt lc
  omega
theorem eqD_KDnil {L : List (Rat × Rat)} (h : L ≠ []) : eqD (KD L) (.tuple []) = some false := by
  have := eqD_KD L []
  rw [decide_eq_false h] at this
  exact this
end Mp

end

section
namespace Mp
open PySem PySem.Spec PyProof.Rows L2
theorem step5 {w : Int} (w0 : 0 ≤ w) (w1 : w < 9) {i : Nat} (hi : i < 5) : ∃ u : U, ([.tuple [.int 0, .int 1], .tuple [.int 1, .int 1], .tuple [.int 2, .int 1], .tuple [.int 1, .int 2], .tuple [.int w, .int 3]] : List D).getD i .none = ud u ∧ 0 ≤ u.val ∧ Bd 60 160 u.val ∧ lu u ≤ 8 := by
  have lw := lg_nat (i := w) (B := 15) (k := 4) (by omega) (by decide)
  have l3 : lg 3 = 2 := by decide
  have bd : ∀ (a b : Int) (hb : 0 < b) (m : Int) (hm : b * m = 60), (a * m).natAbs ≤ 160 → Bd 60 160 (Rat.divInt a b) := fun a b hb m hm h => by
    refine ⟨a * m, ?_, h⟩
    have m0 : m ≠ 0 := fun z => by rw [z] at hm; omega
    rw [show ((60 : Nat) : Int) = b * m from hm.symm]
    exact (Rat.divInt_mul_right m0).symm
  have nn : ∀ (a b : Int), 0 ≤ a → 0 < b → 0 ≤ Rat.divInt a b := fun a b ha hb => (Rat.divInt_nonneg_iff_of_pos_right hb).mpr ha
  have : i = 0 ∨ i = 1 ∨ i = 2 ∨ i = 3 ∨ i = 4 := by omega
  rcases this with rfl | rfl | rfl | rfl | rfl
  · exact ⟨⟨0, 1, by decide⟩, rfl, nn _ _ (by decide) (by decide), bd _ _ (by decide) 60 (by decide) (by decide), by decide⟩
  · exact ⟨⟨1, 1, by decide⟩, rfl, nn _ _ (by decide) (by decide), bd _ _ (by decide) 60 (by decide) (by decide), by decide⟩
  · exact ⟨⟨2, 1, by decide⟩, rfl, nn _ _ (by decide) (by decide), bd _ _ (by decide) 60 (by decide) (by decide), by decide⟩
  · exact ⟨⟨1, 2, by decide⟩, rfl, nn _ _ (by decide) (by decide), bd _ _ (by decide) 30 (by decide) (by decide), by decide⟩
  · exact ⟨⟨w, 3, by decide⟩, rfl, nn w 3 w0 (by decide), bd w 3 (by decide) 20 (by decide) (by omega), by unfold lu; simp only; omega⟩
/-- a row that is being drawn, k steps behind its first corner -/
structure Row (row : List (Rat × Rat)) (h y : Rat) (k : Nat) : Prop where
  lst : ∃ l, row = l ++ [(h, y)]
  fst : ∃ f l, row = (0, f) :: l
  asc : Asc2 row
  bh : Bd 2 (8 * k) h
  by_ : Bd 60 (720 + 160 * k) y
  sz : ∀ c ∈ row, Bd 2 64 c.1 ∧ Bd 60 1600 c.2
  len : row.length = k + 1
theorem Row.start {y : Rat} (h : Bd 60 720 y) : Row [(0, y)] 0 y 0 where
  lst := ⟨[], rfl⟩
  fst := ⟨y, [], rfl⟩
  asc := by unfold Asc2; simp
  bh := ⟨0, by rw [Rat.zero_divInt], by decide⟩
  by_ := h
  sz := fun c hc => by
    rw [List.mem_singleton.mp hc]
    exact ⟨⟨0, by rw [Rat.zero_divInt], by decide⟩, h.mono (by decide)⟩
  len := rfl
theorem Row.step {row : List (Rat × Rat)} {h y d e : Rat} {k : Nat} (r : Row row h y k) (hk : k < 5) (d0 : 0 < d) (e0 : 0 ≤ e) (bd : Bd 2 8 d) (be : Bd 60 160 e) : Row (row ++ [(h + d, y + e)]) (h + d) (y + e) (k + 1) where
  lst := ⟨row, rfl⟩
  fst := by
    obtain ⟨f, l, q⟩ := r.fst
    exact ⟨f, l ++ [(h + d, y + e)], by rw [q]; rfl⟩
  asc := by
    obtain ⟨l, q⟩ := r.lst
    have a := r.asc
    unfold Asc2 at a ⊢
    rw [List.pairwise_append]
    refine ⟨a, by simp, fun c hc x hx => ?_⟩
    rw [List.mem_singleton.mp hx]
    rw [q, List.pairwise_append] at a
    rw [q] at hc
    rcases List.mem_append.mp hc with hc | hc
    · have := a.2.2 c hc (h, y) (by simp)
      simp only at this ⊢
      grind
    · rw [List.mem_singleton.mp hc]
      simp only
      grind
  bh := (r.bh.add bd (by decide)).mono (by omega)
  by_ := (r.by_.add be (by decide)).mono (by omega)
  sz := fun c hc => by
    rcases List.mem_append.mp hc with hc | hc
    · exact r.sz c hc
    · rw [List.mem_singleton.mp hc]
      exact ⟨(r.bh.add bd (by decide)).mono (by omega), (r.by_.add be (by decide)).mono (by omega)⟩
  len := by rw [List.length_append, r.len]; rfl
theorem Row.cts {row : List (Rat × Rat)} {h y : Rat} {k : Nat} (r : Row row h y k) (hk : k ≤ 5) : Cts (tidy row) where
  fst := by
    obtain ⟨f, l, q⟩ := r.fst
    exact ⟨f, tdy (0, f) l, by rw [q]; rfl⟩
  asc := r.asc.tidy
  td := tidy_tidy r.asc.up
  sz := fun c hc => by
    have := r.sz c ((tidy_sub row).subset hc)
    have h1 := this.1.lq (k := 7) (m := 2) (by decide) (by decide) (by decide)
    have h2 := this.2.lq (k := 11) (m := 6) (by decide) (by decide) (by decide)
    unfold lc
    omega
  len := by
    have := (tidy_sub row).length_le
    rw [r.len] at this
    omega
  sh := fun c hc => by
    have := r.sz c ((tidy_sub row).subset hc)
    exact ⟨this.1.lq (k := 7) (m := 2) (by decide) (by decide) (by decide), this.2.lq (k := 11) (m := 6) (by decide) (by decide) (by decide)⟩
theorem Row.lc {row : List (Rat × Rat)} {h y : Rat} {k : Nat} (r : Row row h y k) : ∀ c ∈ row, Mp.lc c ≤ 60 := fun c hc => by
  have := r.sz c hc
  have h1 := this.1.lq (k := 7) (m := 2) (by decide) (by decide) (by decide)
  have h2 := this.2.lq (k := 11) (m := 6) (by decide) (by decide) (by decide)
  unfold Mp.lc
  omega
theorem drop_get {α : Type} {L : List α} {k : Nat} {p : α} {r : List α} (h : L.drop k = p :: r) : L[k]? = some p := by
  have := congrArg (fun l => l[0]?) h
  simpa using this
theorem drop_next {α : Type} {L : List α} {k : Nat} {p : α} {r : List α} (h : L.drop k = p :: r) : L.drop (k + 1) = r := by
  rw [← List.drop_drop, h]
  rfl
theorem drop_last {α : Type} {L : List α} {k : Nat} {p d : α} (h : L.drop k = [p]) : L.getLastD d = p := by
  have hk := drop_get h
  have hk2 := (List.getElem?_eq_some_iff.mp hk).1
  have e : L = L.take k ++ [p] := by
    conv => lhs; rw [← List.take_append_drop k L, h]
  rw [e, getLastD_snoc]
theorem range'_cons {k n : Nat} : List.range' k (n + 1) = k :: List.range' (k + 1) n := rfl
theorem rng0_map (n : Nat) : rngD 0 (n : Nat) = (List.range' 0 n).map fun k => .int (k : Nat) := by
  rw [rng_map, List.range_eq_range']
  simp
/-- a loop that looks at neighbours, by their places -/
theorem nb_go {α : Type} {S : Sc} {T : Tg} {B rest : Sms} {ds : List D} {u v : Sv} {L : List α} (val : α → List α → D) (good : α → Prop) (stop : α → α → Prop) (now : α → α → D)
    (hr : ∀ (p : α) (k : Nat) (a b : Sv), L.drop k = [p] → ∃ σ, evSs S rest [u, v, a, b] = .ok (.ret (.val (val p [])), σ))
    (ht : ∀ (k : Nat) (p c : α) (r : List α) (a b : Sv), L.drop k = p :: c :: r → good p →
      (stop p c ∧ val p (c :: r) = now p c ∧ ∃ σ, fb S T B (.int (k : Nat)) [u, v, a, b] = .ok (.ret (.val (now p c)), σ)) ∨ (good c ∧ val p (c :: r) = val c r ∧ ∃ a' b', fb S T B (.int (k : Nat)) [u, v, a, b] = .ok (.nx, [u, v, a', b']))) :
    ∀ (r : List α) (p : α) (k : Nat) (a b : Sv), L.drop k = p :: r → good p → end0 ((forD (fb S T B) (ds, none) ((List.range' k r.length).map fun k => .int (k : Nat)) [u, v, a, b]).bd fun q => nxt q (evSs S rest)) = .ok (.val (val p r), [])
  | [], p, k, a, b, hd, _ => by
    obtain ⟨σ, e⟩ := hr p k a b hd
    simp [e]
  | c :: r, p, k, a, b, hd, hg => by
    rw [List.length_cons, range'_cons, List.map_cons, for_cons]
    rcases ht k p c r a b hd hg with ⟨_, e1, σ, e2⟩ | ⟨g, e1, a', b', e2⟩
    · rw [e2, e1]
      simp
    · rw [e2, e1]
      simp only [rb_ok, lp_nx]
      exact nb_go val good stop now hr ht r c (k + 1) a' b' (drop_next hd) g
theorem rt_lq2 {a b : Rat × Rat} (h : a.1 < b.1) : lq (rt a b) ≤ 2 * lq a.1 + 2 * lq a.2 + 2 * lq b.1 + 2 * lq b.2 + 2 := by
  have h1 := lq_sub b.2 a.2
  have h2 := lq_sub b.1 a.1
  have h3 := lq_div (a := b.2 - a.2) (b := b.1 - a.1) (by grind)
  unfold rt
  omega
theorem cntG_lq {x : Rat} {k : Nat} (hx : lq x ≤ k) : ∀ (r : List (Rat × Rat)) (p : Rat × Rat), Up (p :: r) → (∀ c ∈ p :: r, lq c.1 ≤ 9 ∧ lq c.2 ≤ 17) → lq (cntG x p r) ≤ 4 * k + 285
  | [], p, _, h => by
    have := h p (by simp)
    show lq p.2 ≤ 4 * k + 285
    omega
  | c :: r, p, u, h => by
    have hp := h p (by simp)
    have hc := h c (by simp)
    have q : p.1 < c.1 := (List.pairwise_cons.mp u).1 c (by simp)
    unfold cntG
    split
    · have h1 := rt_lq2 q
      have h2 := lq_sub x p.1
      have h3 := lq_mul (rt p c) (x - p.1)
      have h4 := lq_add p.2 (rt p c * (x - p.1))
      omega
    · exact cntG_lq hx r c (List.pairwise_cons.mp u).2 fun c hc => h c (List.mem_cons_of_mem _ hc)
theorem Cts.cnt_lq {L : List (Rat × Rat)} (h : Cts L) {x : Rat} {k : Nat} (hx : lq x ≤ k) : lq (cnt L x) ≤ 4 * k + 285 := by
  obtain ⟨f, l, e⟩ := h.fst
  have u := h.asc.up
  have s := h.sh
  rw [e] at u s ⊢
  exact cntG_lq hx l (0, f) u s
theorem rchG_lq {x : Rat} (hx : lq x ≤ 321) : ∀ (r : List (Rat × Rat)) (p : Rat × Rat) (t : Rat), Asc2 (p :: r) → (∀ c ∈ p :: r, lq c.1 ≤ 9 ∧ lq c.2 ≤ 17) → p.2 < x → rchG x p r = some t → lq t ≤ 1600
  | [], p, t, _, _, _, e => by cases e
  | c :: r, p, t, u, h, h0, e => by
    have hp := h p (by simp)
    have hc := h c (by simp)
    have q := (List.pairwise_cons.mp u).1 c (by simp)
    unfold rchG at e
    split at e
    · rename_i z
      exact rchG_lq hx r c t (List.pairwise_cons.mp u).2 (fun c hc => h c (List.mem_cons_of_mem _ hc)) z e
    · rename_i z
      have rp := rt_ne q.1 (show p.2 < c.2 by grind)
      have h1 := rt_lq2 q.1
      have h2 := lq_sub x p.2
      have h3 := lq_div (a := x - p.2) (b := rt p c) (by grind)
      have h4 := lq_add p.1 ((x - p.2) / rt p c)
      rw [← Option.some.inj e]
      omega
theorem Cts.rch_ok {L : List (Rat × Rat)} (h : Cts L) {x t : Rat} (hx : lq x ≤ 321) (e : rch L x = some t) : lq t ≤ 1600 ∧ (t = 0 ∨ (0 < t ∧ cnt L t = x ∧ ∀ m, 0 ≤ m → m < t → cnt L m < x)) := by
  obtain ⟨f, l, eL⟩ := h.fst
  have u := h.asc
  have s := h.sh
  rw [eL] at u s e ⊢
  have e : (if f < x then rchG x (0, f) l else some 0) = some t := e
  split at e
  · rename_i z
    exact ⟨rchG_lq hx l (0, f) t u s z e, .inr (rchG_ok l (0, f) x t u z e)⟩
  · have := Option.some.inj e
    subst this
    exact ⟨by decide, .inl rfl⟩
theorem Cts.nn {L : List (Rat × Rat)} (h : Cts L) : ∀ c ∈ L, 0 ≤ c.1 := fun c hc => by
  obtain ⟨f, l, eL⟩ := h.fst
  have u := h.asc
  rw [eL] at u hc
  rcases List.mem_cons.mp hc with rfl | hc
  · exact Rat.le_refl
  · have := ((List.pairwise_cons.mp u).1 c hc).1
    simp only at this
    grind
theorem Shw.opt {o : Option Rat} (h : ∀ t, o = some t → lq t ≤ 1900) : Shw (optD o) 4000 2 := by
  cases o with
  | none => exact Shw.none.mono (by decide) (by decide)
  | some t => exact Shw.frq (h t rfl)
end Mp

end

section
namespace Mp
open PySem PySem.Spec PyProof.Rows L2
/-! ### tolls of steps -/
def letsR (L : List (Rat × Rat)) (dx dt : Rat) : Prop := 0 ≤ dt ∧ (slopes L).getLastD 0 * dt ≤ dx ∧ dx ≤ (slopes L).headD 0 * dt
instance (L : List (Rat × Rat)) (dx dt : Rat) : Decidable (letsR L dx dt) := by unfold letsR; infer_instance
theorem mul_lt_iff {k a b : Rat} (hk : 0 < k) : k * a < k * b ↔ a < b := by
  constructor
  · intro h
    apply Classical.byContradiction
    intro z
    have := Rat.mul_le_mul_of_nonneg_left (c := k) (a := b) (b := a) (by grind) (by grind)
    grind
  · intro h
    exact Rat.mul_lt_mul_of_pos_left h hk
theorem VK.first_iff {c : Rat × Rat} {l : List (Rat × Rat)} (h : VK ((0, 0) :: c :: l)) {dx dt : Rat} : c.2 * dt < c.1 * dx ↔ ¬ dx ≤ (slopes ((0, 0) :: c :: l)).headD 0 * dt := by
  have hi := h.inc ((0, 0), c) (by simp)
  have hi : (0 : Rat) < c.1 := hi
  have e : (slopes ((0, 0) :: c :: l)).headD 0 = (c.2 - 0) / (c.1 - 0) := rfl
  rw [e]
  have e2 := of_div (a := c.2 - 0) (b := c.1 - 0) (by grind) rfl
  generalize (c.2 - 0) / (c.1 - 0) = s at *
  have e3 : c.2 * dt = c.1 * (s * dt) := by grind
  rw [e3, mul_lt_iff hi]
  grind
theorem VK.last_iff {a : List (Rat × Rat)} {d : Rat × Rat} {f : Rat} (h : VK (a ++ [d, (f, 0)])) {dx dt : Rat} : (f - d.1) * dx < (0 - d.2) * dt ↔ ¬ (slopes (a ++ [d, (f, 0)])).getLastD 0 * dt ≤ dx := by
  have hi := h.inc (d, (f, 0)) (prs_last a d (f, 0))
  have hi : 0 < f - d.1 := by grind
  rw [slopes_last]
  have e : slope (d, (f, 0)) = (0 - d.2) / (f - d.1) := rfl
  rw [e]
  have e2 := of_div (a := 0 - d.2) (b := f - d.1) (by grind) rfl
  generalize (0 - d.2) / (f - d.1) = s at *
  have e3 : (0 - d.2) * dt = (f - d.1) * (s * dt) := by grind
  rw [e3, mul_lt_iff hi]
  grind
theorem tollR_nn {L : List (Rat × Rat)} (h : VK L) {dx dt : Rat} : 0 ≤ tollR L dx dt := by
  obtain ⟨c, l, e⟩ := h.fst
  have := tollR_ge (L := L) (far := dx) (lasts := dt) (0, 0) (by rw [e]; simp)
  grind
theorem tollR_add {L : List (Rat × Rat)} (h : VK L) {a b s t : Rat} : tollR L (a + b) (s + t) ≤ tollR L a s + tollR L b t := by
  have n1 := tollR_nn h (dx := a) (dt := s)
  have n2 := tollR_nn h (dx := b) (dt := t)
  refine tollR_le (by grind) fun c hc => ?_
  have h1 := tollR_ge (L := L) (far := a) (lasts := s) c hc
  have h2 := tollR_ge (L := L) (far := b) (lasts := t) c hc
  grind
theorem tollR_mul_le {L : List (Rat × Rat)} (h : VK L) {a t s : Rat} (hs : 0 ≤ s) : tollR L (a * s) (t * s) ≤ tollR L a t * s := by
  refine tollR_le (Rat.mul_nonneg (tollR_nn h) hs) fun c hc => ?_
  have h1 := tollR_ge (L := L) (far := a) (lasts := t) c hc
  have h2 := Rat.mul_le_mul_of_nonneg_right h1 hs
  grind
theorem tollR_mul {L : List (Rat × Rat)} (h : VK L) {a t s : Rat} (hs : 0 < s) : tollR L (a * s) (t * s) = tollR L a t * s := by
  have h1 := tollR_mul_le h (a := a) (t := t) (show 0 ≤ s by grind)
  have hi : 0 < s⁻¹ := Rat.inv_pos.mpr hs
  have si : s * s⁻¹ = 1 := Rat.mul_inv_cancel _ (by grind)
  have h2 := tollR_mul_le h (a := a * s) (t := t * s) (show 0 ≤ s⁻¹ by grind)
  have e1 : a * s * s⁻¹ = a := by rw [Rat.mul_assoc, si, Rat.mul_one]
  have e2 : t * s * s⁻¹ = t := by rw [Rat.mul_assoc, si, Rat.mul_one]
  rw [e1, e2] at h2
  have h3 := Rat.mul_le_mul_of_nonneg_right h2 (show 0 ≤ s by grind)
  have e3 : tollR L (a * s) (t * s) * s⁻¹ * s = tollR L (a * s) (t * s) := by
    rw [Rat.mul_assoc, Rat.mul_comm s⁻¹ s, si, Rat.mul_one]
  grind
theorem tollR_size {L : List (Rat × Rat)} {k m : Nat} (hs : ∀ c ∈ L, lc c ≤ k) {a t : Rat} (ha : lq a ≤ m) (ht : lq t ≤ m) : lq (tollR L a t) ≤ 2 * k + 4 * m + 1 := by
  have go : ∀ (l : List (Rat × Rat)) (b : Rat), (∀ c ∈ l, lc c ≤ k) → lq b ≤ 2 * k + 4 * m + 1 → lq (l.foldl (tlR a t) b) ≤ 2 * k + 4 * m + 1 := by
    intro l
    induction l with
    | nil => intro b _ hb; exact hb
    | cons c l ih =>
      intro b hc hb
      rw [List.foldl_cons]
      refine ih _ (fun d hd => hc d (List.mem_cons_of_mem _ hd)) ?_
      unfold tlR
      split
      · have h1 := lq_sub (c.2 * t) (c.1 * a)
        have h2 := lq_mul c.1 a
        have h3 := lq_mul c.2 t
        have := hc c (by simp)
        unfold lc at this
        omega
      · exact hb
  exact go L 0 hs (by have : lq 0 = 1 := by decide
                      omega)
end Mp

end

section
set_option maxHeartbeats 0
namespace K04
open PySem PySem.Spec PyProof.Rows L2 Mp
def top (i : Nat) : Stmt := PySem.Challenge.pw_roadwaves_k04_whole_tolls_and_their_sums.main.body.getD i (.Pass ⟨0, 0, 0, 0⟩)
/-- is_whole -/
def F0 : Fn := { name := "is_whole", N := ["value"], np := 1, io := none, body := .cons (.ret ⟨25, 4, 25, 67⟩ (.and ⟨25, 11, 25, 67⟩ (.cons (.isi ⟨25, 11, 25, 33⟩ ⟨25, 11, 25, 21⟩ (.var ⟨25, 22, 25, 27⟩ 0) (.one ⟨25, 29, 25, 32⟩ .int)) (.cons (.not ⟨25, 39, 25, 66⟩ (.isi ⟨25, 43, 25, 66⟩ ⟨25, 43, 25, 53⟩ (.var ⟨25, 54, 25, 59⟩ 0) (.one ⟨25, 61, 25, 65⟩ .bool))) (.nil))))) (.nil) }
/-- are_wholes -/
def F1 : Fn := { name := "are_wholes", N := ["value", "many", "each"], np := 2, io := none, body := .cons (.ret ⟨27, 4, 27, 117⟩ (.and ⟨27, 11, 27, 117⟩ (.cons (.isi ⟨27, 11, 27, 35⟩ ⟨27, 11, 27, 21⟩ (.var ⟨27, 22, 27, 27⟩ 0) (.one ⟨27, 29, 27, 34⟩ .tuple)) (.cons (.cmp ⟨27, 40, 27, 58⟩ .eq (.bi ⟨27, 40, 27, 50⟩ ⟨27, 40, 27, 43⟩ .len (.cons (.var ⟨27, 44, 27, 49⟩ 0) (.nil))) (.var ⟨27, 54, 27, 58⟩ 1)) (.cons (.cmp ⟨27, 64, 27, 116⟩ .eq (.comp ⟨27, 64, 27, 110⟩ [("each", 2)] { kind := .function, names := [(".0", .local), ("each", .local), ("is_whole", .globalImplicit)], isGenerator := false, isCoroutine := false, more := [] } (.var ⟨27, 65, 27, 69⟩ 2) (.nm ⟨27, 74, 27, 78⟩ 2) (.seq (.var ⟨27, 82, 27, 87⟩ 0)) (.not ⟨27, 91, 27, 109⟩ (.call ⟨27, 95, 27, 109⟩ ⟨27, 95, 27, 103⟩ 0 (.cons (.var ⟨27, 104, 27, 108⟩ 2) (.nil))))) (.lst ⟨27, 114, 27, 116⟩ (.nil))) (.nil)))))) (.nil) }
/-- common_part -/
def F2 : Fn := { name := "common_part", N := ["numbers", "found", "number"], np := 1, io := none, body := .cons (.set ⟨29, 4, 29, 13⟩ (.nm ⟨29, 4, 29, 9⟩ 1) (.int ⟨29, 12, 29, 13⟩ 0 0)) (.cons (.fors ⟨30, 4, 31, 34⟩ (.nm ⟨30, 8, 30, 14⟩ 2) (.seq (.var ⟨30, 18, 30, 25⟩ 0)) (.cons (.set ⟨31, 8, 31, 34⟩ (.nm ⟨31, 8, 31, 13⟩ 1) (.bi ⟨31, 16, 31, 34⟩ ⟨31, 16, 31, 19⟩ .gcd (.cons (.var ⟨31, 20, 31, 25⟩ 1) (.cons (.var ⟨31, 27, 31, 33⟩ 2) (.nil))))) (.nil))) (.cons (.ret ⟨32, 4, 32, 16⟩ (.var ⟨32, 11, 32, 16⟩ 1)) (.nil))) }
/-- lowest -/
def F3 : Fn := { name := "lowest", N := ["numbers", "part", "number"], np := 1, io := none, body := .cons (.set ⟨34, 4, 34, 31⟩ (.nm ⟨34, 4, 34, 8⟩ 1) (.call ⟨34, 11, 34, 31⟩ ⟨34, 11, 34, 22⟩ 2 (.cons (.var ⟨34, 23, 34, 30⟩ 0) (.nil)))) (.cons (.ret ⟨35, 4, 35, 56⟩ (.bi ⟨35, 11, 35, 56⟩ ⟨35, 11, 35, 16⟩ .tuple (.cons (.comp ⟨35, 17, 35, 55⟩ [("number", 2)] { kind := .function, names := [(".0", .local), ("number", .local), ("part", .free)], isGenerator := false, isCoroutine := false, more := [] } (.bin ⟨35, 18, 35, 32⟩ .fdiv (.var ⟨35, 18, 35, 24⟩ 2) (.var ⟨35, 28, 35, 32⟩ 1)) (.nm ⟨35, 37, 35, 43⟩ 2) (.seq (.var ⟨35, 47, 35, 54⟩ 0)) (.no)) (.nil)))) (.nil)) }
/-- lowest_over -/
def F4 : Fn := { name := "lowest_over", N := ["numbers", "below", "factor", "number"], np := 2, io := none, body := .cons (.set ⟨37, 4, 37, 35⟩ (.nm ⟨37, 4, 37, 10⟩ 2) (.ite ⟨37, 13, 37, 35⟩ (.cmp ⟨37, 18, 37, 27⟩ .gt (.var ⟨37, 18, 37, 23⟩ 1) (.int ⟨37, 26, 37, 27⟩ 0 0)) (.int ⟨37, 13, 37, 14⟩ 0 1) (.neg ⟨37, 33, 37, 35⟩ (.int ⟨37, 34, 37, 35⟩ 0 1)))) (.cons (.ret ⟨38, 4, 38, 77⟩ (.call ⟨38, 11, 38, 77⟩ ⟨38, 11, 38, 17⟩ 3 (.cons (.bin ⟨38, 18, 38, 76⟩ .add (.comp ⟨38, 18, 38, 57⟩ [("number", 3)] { kind := .function, names := [(".0", .local), ("number", .local), ("factor", .free)], isGenerator := false, isCoroutine := false, more := [] } (.bin ⟨38, 19, 38, 34⟩ .mul (.var ⟨38, 19, 38, 25⟩ 2) (.var ⟨38, 28, 38, 34⟩ 3)) (.nm ⟨38, 39, 38, 45⟩ 3) (.seq (.var ⟨38, 49, 38, 56⟩ 0)) (.no)) (.lst ⟨38, 60, 38, 76⟩ (.cons (.bin ⟨38, 61, 38, 75⟩ .mul (.var ⟨38, 61, 38, 67⟩ 2) (.var ⟨38, 70, 38, 75⟩ 1)) (.nil)))) (.nil)))) (.nil)) }
/-- ratio -/
def F5 : Fn := { name := "ratio", N := ["top", "below"], np := 2, io := none, body := .cons (.ret ⟨40, 4, 40, 36⟩ (.call ⟨40, 11, 40, 36⟩ ⟨40, 11, 40, 22⟩ 4 (.cons (.lst ⟨40, 23, 40, 28⟩ (.cons (.var ⟨40, 24, 40, 27⟩ 0) (.nil))) (.cons (.var ⟨40, 30, 40, 35⟩ 1) (.nil))))) (.nil) }
/-- minus -/
def F6 : Fn := { name := "minus", N := ["one", "other"], np := 2, io := none, body := .cons (.ret ⟨45, 4, 45, 74⟩ (.call ⟨45, 11, 45, 74⟩ ⟨45, 11, 45, 16⟩ 5 (.cons (.bin ⟨45, 17, 45, 54⟩ .sub (.bin ⟨45, 17, 45, 34⟩ .mul (.ix ⟨45, 17, 45, 23⟩ (.var ⟨45, 17, 45, 20⟩ 0) (.int ⟨45, 21, 45, 22⟩ 0 0)) (.ix ⟨45, 26, 45, 34⟩ (.var ⟨45, 26, 45, 31⟩ 1) (.int ⟨45, 32, 45, 33⟩ 0 1))) (.bin ⟨45, 37, 45, 54⟩ .mul (.ix ⟨45, 37, 45, 45⟩ (.var ⟨45, 37, 45, 42⟩ 1) (.int ⟨45, 43, 45, 44⟩ 0 0)) (.ix ⟨45, 48, 45, 54⟩ (.var ⟨45, 48, 45, 51⟩ 0) (.int ⟨45, 52, 45, 53⟩ 0 1)))) (.cons (.bin ⟨45, 56, 45, 73⟩ .mul (.ix ⟨45, 56, 45, 62⟩ (.var ⟨45, 56, 45, 59⟩ 0) (.int ⟨45, 60, 45, 61⟩ 0 1)) (.ix ⟨45, 65, 45, 73⟩ (.var ⟨45, 65, 45, 70⟩ 1) (.int ⟨45, 71, 45, 72⟩ 0 1))) (.nil))))) (.nil) }
/-- times -/
def F7 : Fn := { name := "times", N := ["one", "other"], np := 2, io := none, body := .cons (.ret ⟨47, 4, 47, 54⟩ (.call ⟨47, 11, 47, 54⟩ ⟨47, 11, 47, 16⟩ 5 (.cons (.bin ⟨47, 17, 47, 34⟩ .mul (.ix ⟨47, 17, 47, 23⟩ (.var ⟨47, 17, 47, 20⟩ 0) (.int ⟨47, 21, 47, 22⟩ 0 0)) (.ix ⟨47, 26, 47, 34⟩ (.var ⟨47, 26, 47, 31⟩ 1) (.int ⟨47, 32, 47, 33⟩ 0 0))) (.cons (.bin ⟨47, 36, 47, 53⟩ .mul (.ix ⟨47, 36, 47, 42⟩ (.var ⟨47, 36, 47, 39⟩ 0) (.int ⟨47, 40, 47, 41⟩ 0 1)) (.ix ⟨47, 45, 47, 53⟩ (.var ⟨47, 45, 47, 50⟩ 1) (.int ⟨47, 51, 47, 52⟩ 0 1))) (.nil))))) (.nil) }
/-- divided -/
def F8 : Fn := { name := "divided", N := ["one", "other"], np := 2, io := none, body := .cons (.ret ⟨49, 4, 49, 54⟩ (.call ⟨49, 11, 49, 54⟩ ⟨49, 11, 49, 16⟩ 5 (.cons (.bin ⟨49, 17, 49, 34⟩ .mul (.ix ⟨49, 17, 49, 23⟩ (.var ⟨49, 17, 49, 20⟩ 0) (.int ⟨49, 21, 49, 22⟩ 0 0)) (.ix ⟨49, 26, 49, 34⟩ (.var ⟨49, 26, 49, 31⟩ 1) (.int ⟨49, 32, 49, 33⟩ 0 1))) (.cons (.bin ⟨49, 36, 49, 53⟩ .mul (.ix ⟨49, 36, 49, 42⟩ (.var ⟨49, 36, 49, 39⟩ 0) (.int ⟨49, 40, 49, 41⟩ 0 1)) (.ix ⟨49, 45, 49, 53⟩ (.var ⟨49, 45, 49, 50⟩ 1) (.int ⟨49, 51, 49, 52⟩ 0 0))) (.nil))))) (.nil) }
/-- is_below -/
def F9 : Fn := { name := "is_below", N := ["one", "other"], np := 2, io := none, body := .cons (.ret ⟨51, 4, 51, 48⟩ (.cmp ⟨51, 11, 51, 48⟩ .lt (.bin ⟨51, 11, 51, 28⟩ .mul (.ix ⟨51, 11, 51, 17⟩ (.var ⟨51, 11, 51, 14⟩ 0) (.int ⟨51, 15, 51, 16⟩ 0 0)) (.ix ⟨51, 20, 51, 28⟩ (.var ⟨51, 20, 51, 25⟩ 1) (.int ⟨51, 26, 51, 27⟩ 0 1))) (.bin ⟨51, 31, 51, 48⟩ .mul (.ix ⟨51, 31, 51, 39⟩ (.var ⟨51, 31, 51, 36⟩ 1) (.int ⟨51, 37, 51, 38⟩ 0 0)) (.ix ⟨51, 42, 51, 48⟩ (.var ⟨51, 42, 51, 45⟩ 0) (.int ⟨51, 46, 51, 47⟩ 0 1))))) (.nil) }
/-- is_fraction -/
def F10 : Fn := { name := "is_fraction", N := ["value"], np := 1, io := none, body := .cons (.ret ⟨54, 4, 54, 83⟩ (.and ⟨54, 11, 54, 83⟩ (.cons (.call ⟨54, 11, 54, 31⟩ ⟨54, 11, 54, 21⟩ 1 (.cons (.var ⟨54, 22, 54, 27⟩ 0) (.cons (.int ⟨54, 29, 54, 30⟩ 0 2) (.nil)))) (.cons (.cmp ⟨54, 36, 54, 48⟩ .gt (.ix ⟨54, 36, 54, 44⟩ (.var ⟨54, 36, 54, 41⟩ 0) (.int ⟨54, 42, 54, 43⟩ 0 1)) (.int ⟨54, 47, 54, 48⟩ 0 0)) (.cons (.cmp ⟨54, 54, 54, 82⟩ .eq (.bi ⟨54, 54, 54, 77⟩ ⟨54, 54, 54, 57⟩ .gcd (.cons (.ix ⟨54, 58, 54, 66⟩ (.var ⟨54, 58, 54, 63⟩ 0) (.int ⟨54, 64, 54, 65⟩ 0 0)) (.cons (.ix ⟨54, 68, 54, 76⟩ (.var ⟨54, 68, 54, 73⟩ 0) (.int ⟨54, 74, 54, 75⟩ 0 1)) (.nil)))) (.int ⟨54, 81, 54, 82⟩ 0 1)) (.nil)))))) (.nil) }
/-- is_content -/
def F11 : Fn := { name := "is_content", N := ["value"], np := 1, io := none, body := .cons (.ret ⟨56, 4, 56, 47⟩ (.and ⟨56, 11, 56, 47⟩ (.cons (.call ⟨56, 11, 56, 29⟩ ⟨56, 11, 56, 22⟩ 10 (.cons (.var ⟨56, 23, 56, 28⟩ 0) (.nil))) (.cons (.cmp ⟨56, 34, 56, 47⟩ .ge (.ix ⟨56, 34, 56, 42⟩ (.var ⟨56, 34, 56, 39⟩ 0) (.int ⟨56, 40, 56, 41⟩ 0 0)) (.int ⟨56, 46, 56, 47⟩ 0 0)) (.nil))))) (.nil) }
/-- are_fractions -/
def F12 : Fn := { name := "are_fractions", N := ["value", "many", "each"], np := 2, io := none, body := .cons (.ret ⟨58, 4, 58, 120⟩ (.and ⟨58, 11, 58, 120⟩ (.cons (.isi ⟨58, 11, 58, 35⟩ ⟨58, 11, 58, 21⟩ (.var ⟨58, 22, 58, 27⟩ 0) (.one ⟨58, 29, 58, 34⟩ .tuple)) (.cons (.cmp ⟨58, 40, 58, 58⟩ .eq (.bi ⟨58, 40, 58, 50⟩ ⟨58, 40, 58, 43⟩ .len (.cons (.var ⟨58, 44, 58, 49⟩ 0) (.nil))) (.var ⟨58, 54, 58, 58⟩ 1)) (.cons (.cmp ⟨58, 64, 58, 119⟩ .eq (.comp ⟨58, 64, 58, 113⟩ [("each", 2)] { kind := .function, names := [(".0", .local), ("each", .local), ("is_fraction", .globalImplicit)], isGenerator := false, isCoroutine := false, more := [] } (.var ⟨58, 65, 58, 69⟩ 2) (.nm ⟨58, 74, 58, 78⟩ 2) (.seq (.var ⟨58, 82, 58, 87⟩ 0)) (.not ⟨58, 91, 58, 112⟩ (.call ⟨58, 95, 58, 112⟩ ⟨58, 95, 58, 106⟩ 10 (.cons (.var ⟨58, 107, 58, 111⟩ 2) (.nil))))) (.lst ⟨58, 117, 58, 119⟩ (.nil))) (.nil)))))) (.nil) }
/-- check_fraction -/
def F13 : Fn := { name := "check_fraction", N := ["value"], np := 1, io := none, body := .cons (.ifs ⟨60, 4, 61, 36⟩ (.not ⟨60, 7, 60, 29⟩ (.call ⟨60, 11, 60, 29⟩ ⟨60, 11, 60, 22⟩ 10 (.cons (.var ⟨60, 23, 60, 28⟩ 0) (.nil)))) (.cons (.nev (atS (defBody (top 26)) [(0, 0)] 0)) (.nil)) (.nil)) (.nil) }
/-- check_content -/
def F14 : Fn := { name := "check_content", N := ["value"], np := 1, io := none, body := .cons (.ifs ⟨63, 4, 64, 35⟩ (.not ⟨63, 7, 63, 28⟩ (.call ⟨63, 11, 63, 28⟩ ⟨63, 11, 63, 21⟩ 11 (.cons (.var ⟨63, 22, 63, 27⟩ 0) (.nil)))) (.cons (.nev (atS (defBody (top 27)) [(0, 0)] 0)) (.nil)) (.nil)) (.nil) }
/-- slope_of -/
def F15 : Fn := { name := "slope_of", N := ["corner", "other"], np := 2, io := none, body := .cons (.ret ⟨69, 4, 69, 74⟩ (.call ⟨69, 11, 69, 74⟩ ⟨69, 11, 69, 18⟩ 8 (.cons (.call ⟨69, 19, 69, 45⟩ ⟨69, 19, 69, 24⟩ 6 (.cons (.ix ⟨69, 25, 69, 33⟩ (.var ⟨69, 25, 69, 30⟩ 1) (.int ⟨69, 31, 69, 32⟩ 0 1)) (.cons (.ix ⟨69, 35, 69, 44⟩ (.var ⟨69, 35, 69, 41⟩ 0) (.int ⟨69, 42, 69, 43⟩ 0 1)) (.nil)))) (.cons (.call ⟨69, 47, 69, 73⟩ ⟨69, 47, 69, 52⟩ 6 (.cons (.ix ⟨69, 53, 69, 61⟩ (.var ⟨69, 53, 69, 58⟩ 1) (.int ⟨69, 59, 69, 60⟩ 0 0)) (.cons (.ix ⟨69, 63, 69, 72⟩ (.var ⟨69, 63, 69, 69⟩ 0) (.int ⟨69, 70, 69, 71⟩ 0 0)) (.nil)))) (.nil))))) (.nil) }
/-- kind_speeds -/
def F16 : Fn := { name := "kind_speeds", N := ["kind", "corner", "other"], np := 1, io := none, body := .cons (.ret ⟨71, 4, 71, 84⟩ (.bi ⟨71, 11, 71, 84⟩ ⟨71, 11, 71, 16⟩ .tuple (.cons (.comp ⟨71, 17, 71, 83⟩ [("corner", 1), ("other", 2)] { kind := .function, names := [(".0", .local), ("corner", .local), ("other", .local), ("slope_of", .globalImplicit)], isGenerator := false, isCoroutine := false, more := [] } (.call ⟨71, 18, 71, 41⟩ ⟨71, 18, 71, 26⟩ 15 (.cons (.var ⟨71, 27, 71, 33⟩ 1) (.cons (.var ⟨71, 35, 71, 40⟩ 2) (.nil)))) (.tup ⟨71, 46, 71, 59⟩ 0 (.cons (.nm ⟨71, 46, 71, 52⟩ 1) (.cons (.nm ⟨71, 54, 71, 59⟩ 2) (.nil)))) (.zip ⟨71, 63, 71, 82⟩ ⟨71, 63, 71, 66⟩ (.var ⟨71, 67, 71, 71⟩ 0) (.sl ⟨71, 73, 71, 81⟩ ⟨71, 78, 71, 80⟩ (.var ⟨71, 73, 71, 77⟩ 0) (.int ⟨71, 78, 71, 79⟩ 0 1) (.no))) (.no)) (.nil)))) (.nil) }
/-- is_kind -/
def F17 : Fn := { name := "is_kind", N := ["value", "speeds", "speed", "other", "corner"], np := 1, io := none, body := .cons (.ifs ⟨73, 4, 74, 20⟩ (.or ⟨73, 7, 73, 86⟩ (.cons (.not ⟨73, 7, 73, 35⟩ (.isi ⟨73, 11, 73, 35⟩ ⟨73, 11, 73, 21⟩ (.var ⟨73, 22, 73, 27⟩ 0) (.one ⟨73, 29, 73, 34⟩ .tuple))) (.cons (.not ⟨73, 39, 73, 86⟩ (.cmp2 ⟨73, 43, 73, 86⟩ .le .le (.glob ⟨73, 43, 73, 56⟩ 0) (.bi ⟨73, 60, 73, 70⟩ ⟨73, 60, 73, 63⟩ .len (.cons (.var ⟨73, 64, 73, 69⟩ 0) (.nil))) (.glob ⟨73, 74, 73, 86⟩ 1))) (.nil)))) (.cons (.ret ⟨74, 8, 74, 20⟩ (.bl ⟨74, 15, 74, 20⟩ 0 false)) (.nil)) (.nil)) (.cons (.ifs ⟨75, 4, 76, 20⟩ (.cmp ⟨75, 7, 75, 66⟩ .ne (.comp ⟨75, 7, 75, 60⟩ [("corner", 4)] { kind := .function, names := [(".0", .local), ("corner", .local), ("is_corner", .globalImplicit)], isGenerator := false, isCoroutine := false, more := [] } (.var ⟨75, 8, 75, 14⟩ 4) (.nm ⟨75, 19, 75, 25⟩ 4) (.seq (.var ⟨75, 29, 75, 34⟩ 0)) (.not ⟨75, 38, 75, 59⟩ (.call ⟨75, 42, 75, 59⟩ ⟨75, 42, 75, 51⟩ 18 (.cons (.var ⟨75, 52, 75, 58⟩ 4) (.nil))))) (.lst ⟨75, 64, 75, 66⟩ (.nil))) (.cons (.ret ⟨76, 8, 76, 20⟩ (.bl ⟨76, 15, 76, 20⟩ 0 false)) (.nil)) (.nil)) (.cons (.ifs ⟨77, 4, 78, 20⟩ (.or ⟨77, 7, 77, 61⟩ (.cons (.cmp ⟨77, 7, 77, 35⟩ .ne (.ix ⟨77, 7, 77, 15⟩ (.var ⟨77, 7, 77, 12⟩ 0) (.int ⟨77, 13, 77, 14⟩ 0 0)) (.tup ⟨77, 19, 77, 35⟩ 0 (.cons (.glob ⟨77, 20, 77, 26⟩ 2) (.cons (.glob ⟨77, 28, 77, 34⟩ 2) (.nil))))) (.cons (.cmp ⟨77, 39, 77, 61⟩ .ne (.ix ⟨77, 39, 77, 51⟩ (.ix ⟨77, 39, 77, 48⟩ (.var ⟨77, 39, 77, 44⟩ 0) (.neg ⟨77, 45, 77, 47⟩ (.int ⟨77, 46, 77, 47⟩ 0 1))) (.int ⟨77, 49, 77, 50⟩ 0 1)) (.glob ⟨77, 55, 77, 61⟩ 2)) (.nil)))) (.cons (.ret ⟨78, 8, 78, 20⟩ (.bl ⟨78, 15, 78, 20⟩ 0 false)) (.nil)) (.nil)) (.cons (.ifs ⟨79, 4, 80, 20⟩ (.cmp ⟨79, 7, 79, 68⟩ .ne (.comp ⟨79, 7, 79, 62⟩ [("corner", 4)] { kind := .function, names := [(".0", .local), ("corner", .local)], isGenerator := false, isCoroutine := false, more := [] } (.var ⟨79, 8, 79, 14⟩ 4) (.nm ⟨79, 19, 79, 25⟩ 4) (.seq (.sl ⟨79, 29, 79, 40⟩ ⟨79, 35, 79, 39⟩ (.var ⟨79, 29, 79, 34⟩ 0) (.int ⟨79, 35, 79, 36⟩ 0 1) (.neg ⟨79, 37, 79, 39⟩ (.int ⟨79, 38, 79, 39⟩ 0 1)))) (.cmp ⟨79, 44, 79, 61⟩ .le (.ix ⟨79, 44, 79, 56⟩ (.ix ⟨79, 44, 79, 53⟩ (.var ⟨79, 44, 79, 50⟩ 4) (.int ⟨79, 51, 79, 52⟩ 0 1)) (.int ⟨79, 54, 79, 55⟩ 0 0)) (.int ⟨79, 60, 79, 61⟩ 0 0))) (.lst ⟨79, 66, 79, 68⟩ (.nil))) (.cons (.ret ⟨80, 8, 80, 20⟩ (.bl ⟨80, 15, 80, 20⟩ 0 false)) (.nil)) (.nil)) (.cons (.ifs ⟨81, 4, 82, 20⟩ (.cmp ⟨81, 7, 81, 96⟩ .ne (.comp ⟨81, 7, 81, 90⟩ [("corner", 4), ("other", 3)] { kind := .function, names := [(".0", .local), ("corner", .local), ("other", .local), ("is_below", .globalImplicit)], isGenerator := false, isCoroutine := false, more := [] } (.int ⟨81, 8, 81, 9⟩ 0 1) (.tup ⟨81, 14, 81, 27⟩ 0 (.cons (.nm ⟨81, 14, 81, 20⟩ 4) (.cons (.nm ⟨81, 22, 81, 27⟩ 3) (.nil)))) (.zip ⟨81, 31, 81, 52⟩ ⟨81, 31, 81, 34⟩ (.var ⟨81, 35, 81, 40⟩ 0) (.sl ⟨81, 42, 81, 51⟩ ⟨81, 48, 81, 50⟩ (.var ⟨81, 42, 81, 47⟩ 0) (.int ⟨81, 48, 81, 49⟩ 0 1) (.no))) (.not ⟨81, 56, 81, 89⟩ (.call ⟨81, 60, 81, 89⟩ ⟨81, 60, 81, 68⟩ 9 (.cons (.ix ⟨81, 69, 81, 78⟩ (.var ⟨81, 69, 81, 75⟩ 4) (.int ⟨81, 76, 81, 77⟩ 0 0)) (.cons (.ix ⟨81, 80, 81, 88⟩ (.var ⟨81, 80, 81, 85⟩ 3) (.int ⟨81, 86, 81, 87⟩ 0 0)) (.nil)))))) (.lst ⟨81, 94, 81, 96⟩ (.nil))) (.cons (.ret ⟨82, 8, 82, 20⟩ (.bl ⟨82, 15, 82, 20⟩ 0 false)) (.nil)) (.nil)) (.cons (.set ⟨83, 4, 83, 31⟩ (.nm ⟨83, 4, 83, 10⟩ 1) (.call ⟨83, 13, 83, 31⟩ ⟨83, 13, 83, 24⟩ 16 (.cons (.var ⟨83, 25, 83, 30⟩ 0) (.nil)))) (.cons (.ret ⟨84, 4, 84, 94⟩ (.cmp ⟨84, 11, 84, 94⟩ .eq (.comp ⟨84, 11, 84, 88⟩ [("speed", 2), ("other", 3)] { kind := .function, names := [(".0", .local), ("speed", .local), ("other", .local), ("is_below", .globalImplicit)], isGenerator := false, isCoroutine := false, more := [] } (.int ⟨84, 12, 84, 13⟩ 0 1) (.tup ⟨84, 18, 84, 30⟩ 0 (.cons (.nm ⟨84, 18, 84, 23⟩ 2) (.cons (.nm ⟨84, 25, 84, 30⟩ 3) (.nil)))) (.zip ⟨84, 34, 84, 57⟩ ⟨84, 34, 84, 37⟩ (.var ⟨84, 38, 84, 44⟩ 1) (.sl ⟨84, 46, 84, 56⟩ ⟨84, 53, 84, 55⟩ (.var ⟨84, 46, 84, 52⟩ 1) (.int ⟨84, 53, 84, 54⟩ 0 1) (.no))) (.not ⟨84, 61, 84, 87⟩ (.call ⟨84, 65, 84, 87⟩ ⟨84, 65, 84, 73⟩ 9 (.cons (.var ⟨84, 74, 84, 79⟩ 3) (.cons (.var ⟨84, 81, 84, 86⟩ 2) (.nil)))))) (.lst ⟨84, 92, 84, 94⟩ (.nil)))) (.nil))))))) }
/-- is_corner -/
def F18 : Fn := { name := "is_corner", N := ["value"], np := 1, io := none, body := .cons (.ret ⟨86, 4, 86, 34⟩ (.call ⟨86, 11, 86, 34⟩ ⟨86, 11, 86, 24⟩ 12 (.cons (.var ⟨86, 25, 86, 30⟩ 0) (.cons (.int ⟨86, 32, 86, 33⟩ 0 2) (.nil))))) (.nil) }
/-- check_kind -/
def F19 : Fn := { name := "check_kind", N := ["value"], np := 1, io := none, body := .cons (.ifs ⟨88, 4, 89, 32⟩ (.not ⟨88, 7, 88, 25⟩ (.call ⟨88, 11, 88, 25⟩ ⟨88, 11, 88, 18⟩ 17 (.cons (.var ⟨88, 19, 88, 24⟩ 0) (.nil)))) (.cons (.nev (atS (defBody (top 35)) [(0, 0)] 0)) (.nil)) (.nil)) (.nil) }
/-- toll_by -/
def F20 : Fn := { name := "toll_by", N := ["kind", "distance", "duration", "found", "density", "flow", "toll"], np := 3, io := none, body := .cons (.ifs ⟨91, 4, 92, 19⟩ (.or ⟨91, 7, 91, 92⟩ (.cons (.cmp ⟨91, 7, 91, 22⟩ .lt (.ix ⟨91, 7, 91, 18⟩ (.var ⟨91, 7, 91, 15⟩ 2) (.int ⟨91, 16, 91, 17⟩ 0 0)) (.int ⟨91, 21, 91, 22⟩ 0 0)) (.cons (.call ⟨91, 26, 91, 92⟩ ⟨91, 26, 91, 34⟩ 9 (.cons (.call ⟨91, 35, 91, 62⟩ ⟨91, 35, 91, 40⟩ 7 (.cons (.ix ⟨91, 41, 91, 51⟩ (.ix ⟨91, 41, 91, 48⟩ (.var ⟨91, 41, 91, 45⟩ 0) (.int ⟨91, 46, 91, 47⟩ 0 1)) (.int ⟨91, 49, 91, 50⟩ 0 1)) (.cons (.var ⟨91, 53, 91, 61⟩ 2) (.nil)))) (.cons (.call ⟨91, 64, 91, 91⟩ ⟨91, 64, 91, 69⟩ 7 (.cons (.ix ⟨91, 70, 91, 80⟩ (.ix ⟨91, 70, 91, 77⟩ (.var ⟨91, 70, 91, 74⟩ 0) (.int ⟨91, 75, 91, 76⟩ 0 1)) (.int ⟨91, 78, 91, 79⟩ 0 0)) (.cons (.var ⟨91, 82, 91, 90⟩ 1) (.nil)))) (.nil)))) (.nil)))) (.cons (.ret ⟨92, 8, 92, 19⟩ (.non ⟨92, 15, 92, 19⟩ 0)) (.nil)) (.nil)) (.cons (.ifs ⟨93, 4, 94, 19⟩ (.call ⟨93, 7, 93, 110⟩ ⟨93, 7, 93, 15⟩ 9 (.cons (.call ⟨93, 16, 93, 64⟩ ⟨93, 16, 93, 21⟩ 7 (.cons (.call ⟨93, 22, 93, 53⟩ ⟨93, 22, 93, 27⟩ 6 (.cons (.ix ⟨93, 28, 93, 39⟩ (.ix ⟨93, 28, 93, 36⟩ (.var ⟨93, 28, 93, 32⟩ 0) (.neg ⟨93, 33, 93, 35⟩ (.int ⟨93, 34, 93, 35⟩ 0 1))) (.int ⟨93, 37, 93, 38⟩ 0 0)) (.cons (.ix ⟨93, 41, 93, 52⟩ (.ix ⟨93, 41, 93, 49⟩ (.var ⟨93, 41, 93, 45⟩ 0) (.neg ⟨93, 46, 93, 48⟩ (.int ⟨93, 47, 93, 48⟩ 0 2))) (.int ⟨93, 50, 93, 51⟩ 0 0)) (.nil)))) (.cons (.var ⟨93, 55, 93, 63⟩ 1) (.nil)))) (.cons (.call ⟨93, 66, 93, 109⟩ ⟨93, 66, 93, 71⟩ 7 (.cons (.call ⟨93, 72, 93, 98⟩ ⟨93, 72, 93, 77⟩ 6 (.cons (.glob ⟨93, 78, 93, 84⟩ 2) (.cons (.ix ⟨93, 86, 93, 97⟩ (.ix ⟨93, 86, 93, 94⟩ (.var ⟨93, 86, 93, 90⟩ 0) (.neg ⟨93, 91, 93, 93⟩ (.int ⟨93, 92, 93, 93⟩ 0 2))) (.int ⟨93, 95, 93, 96⟩ 0 1)) (.nil)))) (.cons (.var ⟨93, 100, 93, 108⟩ 2) (.nil)))) (.nil)))) (.cons (.ret ⟨94, 8, 94, 19⟩ (.non ⟨94, 15, 94, 19⟩ 0)) (.nil)) (.nil)) (.cons (.set ⟨95, 4, 95, 16⟩ (.nm ⟨95, 4, 95, 9⟩ 3) (.non ⟨95, 12, 95, 16⟩ 0)) (.cons (.fors ⟨96, 4, 98, 73⟩ (.tup ⟨96, 8, 96, 21⟩ 0 (.cons (.nm ⟨96, 8, 96, 15⟩ 4) (.cons (.nm ⟨96, 17, 96, 21⟩ 5) (.nil)))) (.seq (.var ⟨96, 25, 96, 29⟩ 0)) (.cons (.set ⟨97, 8, 97, 69⟩ (.nm ⟨97, 8, 97, 12⟩ 6) (.call ⟨97, 15, 97, 69⟩ ⟨97, 15, 97, 20⟩ 6 (.cons (.call ⟨97, 21, 97, 42⟩ ⟨97, 21, 97, 26⟩ 7 (.cons (.var ⟨97, 27, 97, 31⟩ 5) (.cons (.var ⟨97, 33, 97, 41⟩ 2) (.nil)))) (.cons (.call ⟨97, 44, 97, 68⟩ ⟨97, 44, 97, 49⟩ 7 (.cons (.var ⟨97, 50, 97, 57⟩ 4) (.cons (.var ⟨97, 59, 97, 67⟩ 1) (.nil)))) (.nil))))) (.cons (.set ⟨98, 8, 98, 73⟩ (.nm ⟨98, 8, 98, 13⟩ 3) (.ite ⟨98, 16, 98, 73⟩ (.or ⟨98, 24, 98, 62⟩ (.cons (.cmp ⟨98, 24, 98, 37⟩ .is (.var ⟨98, 24, 98, 29⟩ 3) (.non ⟨98, 33, 98, 37⟩ 0)) (.cons (.call ⟨98, 41, 98, 62⟩ ⟨98, 41, 98, 49⟩ 9 (.cons (.var ⟨98, 50, 98, 55⟩ 3) (.cons (.var ⟨98, 57, 98, 61⟩ 6) (.nil)))) (.nil)))) (.var ⟨98, 16, 98, 20⟩ 6) (.var ⟨98, 68, 98, 73⟩ 3))) (.nil)))) (.cons (.ret ⟨99, 4, 99, 16⟩ (.var ⟨99, 11, 99, 16⟩ 3)) (.nil))))) }
/-- toll -/
def F21 : Fn := { name := "toll", N := ["kind", "distance", "duration", "found"], np := 3, io := none, body := .cons (.ex ⟨101, 4, 101, 20⟩ (.call ⟨101, 4, 101, 20⟩ ⟨101, 4, 101, 14⟩ 19 (.cons (.var ⟨101, 15, 101, 19⟩ 0) (.nil)))) (.cons (.ex ⟨102, 4, 102, 28⟩ (.call ⟨102, 4, 102, 28⟩ ⟨102, 4, 102, 18⟩ 13 (.cons (.var ⟨102, 19, 102, 27⟩ 1) (.nil)))) (.cons (.ex ⟨103, 4, 103, 27⟩ (.call ⟨103, 4, 103, 27⟩ ⟨103, 4, 103, 17⟩ 14 (.cons (.var ⟨103, 18, 103, 26⟩ 2) (.nil)))) (.cons (.set ⟨104, 4, 104, 45⟩ (.nm ⟨104, 4, 104, 9⟩ 3) (.call ⟨104, 12, 104, 45⟩ ⟨104, 12, 104, 19⟩ 20 (.cons (.var ⟨104, 20, 104, 24⟩ 0) (.cons (.var ⟨104, 26, 104, 34⟩ 1) (.cons (.var ⟨104, 36, 104, 44⟩ 2) (.nil)))))) (.cons (.ifs ⟨105, 4, 106, 22⟩ (.cmp ⟨105, 7, 105, 20⟩ .is (.var ⟨105, 7, 105, 12⟩ 3) (.non ⟨105, 16, 105, 20⟩ 0)) (.cons (.rse ⟨106, 8, 106, 22⟩ ⟨106, 14, 106, 22⟩ ⟨106, 14, 106, 20⟩ "NoStep") (.nil)) (.nil)) (.cons (.ret ⟨107, 4, 107, 16⟩ (.var ⟨107, 11, 107, 16⟩ 3)) (.nil)))))) }
/-- toll_rate -/
def F22 : Fn := { name := "toll_rate", N := ["kind", "speed", "found"], np := 2, io := none, body := .cons (.ex ⟨109, 4, 109, 20⟩ (.call ⟨109, 4, 109, 20⟩ ⟨109, 4, 109, 14⟩ 19 (.cons (.var ⟨109, 15, 109, 19⟩ 0) (.nil)))) (.cons (.set ⟨110, 4, 110, 69⟩ (.nm ⟨110, 4, 110, 9⟩ 2) (.ite ⟨110, 12, 110, 69⟩ (.call ⟨110, 41, 110, 59⟩ ⟨110, 41, 110, 52⟩ 10 (.cons (.var ⟨110, 53, 110, 58⟩ 1) (.nil))) (.call ⟨110, 12, 110, 37⟩ ⟨110, 12, 110, 19⟩ 20 (.cons (.var ⟨110, 20, 110, 24⟩ 0) (.cons (.var ⟨110, 26, 110, 31⟩ 1) (.cons (.glob ⟨110, 33, 110, 36⟩ 3) (.nil))))) (.non ⟨110, 65, 110, 69⟩ 0))) (.cons (.ifs ⟨111, 4, 112, 33⟩ (.cmp ⟨111, 7, 111, 20⟩ .is (.var ⟨111, 7, 111, 12⟩ 2) (.non ⟨111, 16, 111, 20⟩ 0)) (.cons (.nev (atS (defBody (top 38)) [(2, 0)] 0)) (.nil)) (.nil)) (.cons (.ret ⟨113, 4, 113, 16⟩ (.var ⟨113, 11, 113, 16⟩ 2)) (.nil)))) }
/-- _law_spring -/
def F23 : Fn := { name := "_law_spring", N := ["_law_script", "_law_turn", "_law_own", "_law_stirred", "_law_cell"], np := 2, io := none, body := .cons (.set ⟨116, 4, 116, 140⟩ (.nm ⟨116, 4, 116, 12⟩ 2) (.ite ⟨116, 15, 116, 140⟩ (.cmp ⟨116, 46, 116, 74⟩ .lt (.var ⟨116, 46, 116, 55⟩ 1) (.bi ⟨116, 58, 116, 74⟩ ⟨116, 58, 116, 61⟩ .len (.cons (.var ⟨116, 62, 116, 73⟩ 0) (.nil)))) (.bi ⟨116, 15, 116, 42⟩ ⟨116, 15, 116, 18⟩ .int (.cons (.ix ⟨116, 19, 116, 41⟩ (.var ⟨116, 19, 116, 30⟩ 0) (.var ⟨116, 31, 116, 40⟩ 1)) (.nil))) (.bin ⟨116, 80, 116, 140⟩ .add (.bin ⟨116, 80, 116, 102⟩ .add (.bin ⟨116, 80, 116, 96⟩ .mul (.int ⟨116, 80, 116, 84⟩ 0 5171) (.var ⟨116, 87, 116, 96⟩ 1)) (.int ⟨116, 99, 116, 102⟩ 0 367)) (.bin ⟨116, 105, 116, 140⟩ .mod (.bi ⟨116, 105, 116, 130⟩ ⟨116, 105, 116, 108⟩ .int (.cons (.bi ⟨116, 109, 116, 129⟩ ⟨116, 109, 116, 112⟩ .sum (.cons (.sl ⟨116, 113, 116, 128⟩ ⟨116, 125, 116, 127⟩ (.var ⟨116, 113, 116, 124⟩ 0) (.no) (.int ⟨116, 126, 116, 127⟩ 0 5)) (.nil))) (.nil))) (.int ⟨116, 133, 116, 140⟩ 0 1000033))))) (.cons (.set ⟨117, 4, 117, 43⟩ (.nm ⟨117, 4, 117, 16⟩ 3) (.bin ⟨117, 19, 117, 43⟩ .add (.int ⟨117, 19, 117, 24⟩ 0 70657) (.bin ⟨117, 27, 117, 43⟩ .mul (.int ⟨117, 27, 117, 31⟩ 0 2903) (.var ⟨117, 34, 117, 43⟩ 1)))) (.cons (.fors ⟨118, 4, 119, 96⟩ (.nm ⟨118, 8, 118, 17⟩ 4) (.seq (.bin ⟨118, 21, 118, 50⟩ .add (.sl ⟨118, 21, 118, 37⟩ ⟨118, 33, 118, 36⟩ (.var ⟨118, 21, 118, 32⟩ 0) (.no) (.int ⟨118, 34, 118, 36⟩ 0 63)) (.lst ⟨118, 40, 118, 50⟩ (.cons (.var ⟨118, 41, 118, 49⟩ 2) (.nil))))) (.cons (.set ⟨119, 8, 119, 96⟩ (.nm ⟨119, 8, 119, 20⟩ 3) (.bin ⟨119, 23, 119, 96⟩ .mod (.bi ⟨119, 23, 119, 83⟩ ⟨119, 23, 119, 26⟩ .int (.cons (.bin ⟨119, 27, 119, 82⟩ .add (.bin ⟨119, 27, 119, 77⟩ .add (.bin ⟨119, 27, 119, 47⟩ .mul (.var ⟨119, 27, 119, 39⟩ 3) (.int ⟨119, 42, 119, 47⟩ 0 52919)) (.bin ⟨119, 50, 119, 77⟩ .mod (.bi ⟨119, 50, 119, 64⟩ ⟨119, 50, 119, 53⟩ .int (.cons (.var ⟨119, 54, 119, 63⟩ 4) (.nil))) (.int ⟨119, 67, 119, 77⟩ 0 2147483629))) (.int ⟨119, 80, 119, 82⟩ 0 29)) (.nil))) (.int ⟨119, 86, 119, 96⟩ 0 2147483629))) (.nil))) (.cons (.ret ⟨120, 4, 120, 90⟩ (.lst ⟨120, 11, 120, 90⟩ (.cons (.ite ⟨120, 12, 120, 72⟩ (.or ⟨120, 29, 120, 65⟩ (.cons (.cmp ⟨120, 29, 120, 41⟩ .lt (.var ⟨120, 29, 120, 37⟩ 2) (.int ⟨120, 40, 120, 41⟩ 0 0)) (.cons (.cmp ⟨120, 45, 120, 65⟩ .ge (.var ⟨120, 45, 120, 53⟩ 2) (.bin ⟨120, 57, 120, 65⟩ .pow (.int ⟨120, 57, 120, 59⟩ 0 10) (.int ⟨120, 63, 120, 65⟩ 0 18))) (.nil)))) (.bi ⟨120, 12, 120, 25⟩ ⟨120, 12, 120, 15⟩ .abs (.cons (.var ⟨120, 16, 120, 24⟩ 2) (.nil))) (.int ⟨120, 71, 120, 72⟩ 0 0)) (.cons (.var ⟨120, 74, 120, 86⟩ 3) (.cons (.int ⟨120, 88, 120, 89⟩ 0 0) (.nil)))))) (.nil)))) }
/-- _law_draw -/
def F24 : Fn := { name := "_law_draw", N := ["_law_spring_here", "_law_many", "_law_digit"], np := 2, io := some 0, body := .cons (.ifs ⟨122, 4, 125, 25⟩ (.cmp ⟨122, 7, 122, 30⟩ .gt (.ix ⟨122, 7, 122, 26⟩ (.pk ⟨122, 7, 122, 23⟩ 0) (.int ⟨122, 24, 122, 25⟩ 0 0)) (.int ⟨122, 29, 122, 30⟩ 0 0)) (.cons (.set ⟨123, 8, 123, 57⟩ (.nm ⟨123, 8, 123, 18⟩ 2) (.bin ⟨123, 21, 123, 57⟩ .mod (.bi ⟨123, 21, 123, 45⟩ ⟨123, 21, 123, 24⟩ .int (.cons (.ix ⟨123, 25, 123, 44⟩ (.pk ⟨123, 25, 123, 41⟩ 0) (.int ⟨123, 42, 123, 43⟩ 0 0)) (.nil))) (.var ⟨123, 48, 123, 57⟩ 1))) (.cons (.set ⟨124, 8, 124, 67⟩ (.sub ⟨124, 8, 124, 27⟩ ⟨124, 8, 124, 24⟩ 0 (.int ⟨124, 25, 124, 26⟩ 0 0)) (.bin ⟨124, 30, 124, 67⟩ .fdiv (.bi ⟨124, 30, 124, 54⟩ ⟨124, 30, 124, 33⟩ .int (.cons (.ix ⟨124, 34, 124, 53⟩ (.pk ⟨124, 34, 124, 50⟩ 0) (.int ⟨124, 51, 124, 52⟩ 0 0)) (.nil))) (.var ⟨124, 58, 124, 67⟩ 1))) (.cons (.ret ⟨125, 8, 125, 25⟩ (.var ⟨125, 15, 125, 25⟩ 2)) (.nil)))) (.nil)) (.cons (.set ⟨126, 4, 126, 49⟩ (.sub ⟨126, 4, 126, 23⟩ ⟨126, 4, 126, 20⟩ 0 (.int ⟨126, 21, 126, 22⟩ 0 2)) (.bin ⟨126, 26, 126, 49⟩ .add (.ix ⟨126, 26, 126, 45⟩ (.pk ⟨126, 26, 126, 42⟩ 0) (.int ⟨126, 43, 126, 44⟩ 0 2)) (.int ⟨126, 48, 126, 49⟩ 0 1))) (.cons (.set ⟨127, 4, 127, 134⟩ (.sub ⟨127, 4, 127, 23⟩ ⟨127, 4, 127, 20⟩ 0 (.int ⟨127, 21, 127, 22⟩ 0 1)) (.bin ⟨127, 26, 127, 134⟩ .mod (.bi ⟨127, 26, 127, 121⟩ ⟨127, 26, 127, 29⟩ .int (.cons (.bin ⟨127, 30, 127, 120⟩ .add (.bin ⟨127, 30, 127, 115⟩ .add (.bin ⟨127, 30, 127, 85⟩ .mul (.ix ⟨127, 30, 127, 49⟩ (.pk ⟨127, 30, 127, 46⟩ 0) (.int ⟨127, 47, 127, 48⟩ 0 1)) (.bin ⟨127, 53, 127, 84⟩ .add (.int ⟨127, 53, 127, 58⟩ 0 31607) (.bin ⟨127, 61, 127, 84⟩ .mul (.int ⟨127, 61, 127, 62⟩ 0 6) (.ix ⟨127, 65, 127, 84⟩ (.pk ⟨127, 65, 127, 81⟩ 0) (.int ⟨127, 82, 127, 83⟩ 0 2))))) (.bin ⟨127, 88, 127, 115⟩ .mul (.int ⟨127, 88, 127, 93⟩ 0 90247) (.ix ⟨127, 96, 127, 115⟩ (.pk ⟨127, 96, 127, 112⟩ 0) (.int ⟨127, 113, 127, 114⟩ 0 2)))) (.int ⟨127, 118, 127, 120⟩ 0 17)) (.nil))) (.int ⟨127, 124, 127, 134⟩ 0 2147483587))) (.cons (.ret ⟨128, 4, 128, 53⟩ (.bin ⟨128, 11, 128, 53⟩ .mod (.bi ⟨128, 11, 128, 41⟩ ⟨128, 11, 128, 14⟩ .int (.cons (.bin ⟨128, 15, 128, 40⟩ .fdiv (.ix ⟨128, 15, 128, 34⟩ (.pk ⟨128, 15, 128, 31⟩ 0) (.int ⟨128, 32, 128, 33⟩ 0 1)) (.int ⟨128, 38, 128, 40⟩ 0 71)) (.nil))) (.var ⟨128, 44, 128, 53⟩ 1))) (.nil)))) }
/-- _law_pick -/
def F25 : Fn := { name := "_law_pick", N := ["_law_spring_here", "_law_some"], np := 2, io := some 0, body := .cons (.ret ⟨130, 4, 130, 65⟩ (.ix ⟨130, 11, 130, 65⟩ (.var ⟨130, 11, 130, 20⟩ 1) (.call ⟨130, 21, 130, 64⟩ ⟨130, 21, 130, 30⟩ 24 (.cons (.pk ⟨130, 31, 130, 47⟩ 0) (.cons (.bi ⟨130, 49, 130, 63⟩ ⟨130, 49, 130, 52⟩ .len (.cons (.var ⟨130, 53, 130, 62⟩ 1) (.nil))) (.nil)))))) (.nil) }
/-- _law_shared -/
def F26 : Fn := { name := "_law_shared", N := ["_law_one", "_law_two", "_law_big", "_law_small_here"], np := 2, io := none, body := .cons (.par2 ⟨132, 4, 132, 62⟩ ⟨132, 4, 132, 29⟩ ⟨132, 32, 132, 62⟩ 0 0 ⟨132, 4, 132, 12⟩ ⟨132, 14, 132, 29⟩ 2 3 (.bi ⟨132, 33, 132, 46⟩ ⟨132, 33, 132, 36⟩ .abs (.cons (.var ⟨132, 37, 132, 45⟩ 0) (.nil))) (.bi ⟨132, 48, 132, 61⟩ ⟨132, 48, 132, 51⟩ .abs (.cons (.var ⟨132, 52, 132, 60⟩ 1) (.nil)))) (.cons (.whl ⟨133, 4, 134, 86⟩ (.cmp ⟨133, 10, 133, 30⟩ .ne (.var ⟨133, 10, 133, 25⟩ 3) (.int ⟨133, 29, 133, 30⟩ 0 0)) (.cons (.par2 ⟨134, 8, 134, 86⟩ ⟨134, 8, 134, 33⟩ ⟨134, 36, 134, 86⟩ 0 0 ⟨134, 8, 134, 16⟩ ⟨134, 18, 134, 33⟩ 2 3 (.var ⟨134, 37, 134, 52⟩ 3) (.bin ⟨134, 54, 134, 85⟩ .mod (.bi ⟨134, 54, 134, 67⟩ ⟨134, 54, 134, 57⟩ .int (.cons (.var ⟨134, 58, 134, 66⟩ 2) (.nil))) (.var ⟨134, 70, 134, 85⟩ 3))) (.nil))) (.cons (.ret ⟨135, 4, 135, 19⟩ (.var ⟨135, 11, 135, 19⟩ 2)) (.nil))) }
/-- _law_frac -/
def F27 : Fn := { name := "_law_frac", N := ["_law_top", "_law_under_here", "_law_part_here"], np := 2, io := none, body := .cons (.set ⟨137, 4, 137, 59⟩ (.nm ⟨137, 4, 137, 18⟩ 2) (.call ⟨137, 21, 137, 59⟩ ⟨137, 21, 137, 32⟩ 26 (.cons (.var ⟨137, 33, 137, 41⟩ 0) (.cons (.var ⟨137, 43, 137, 58⟩ 1) (.nil))))) (.cons (.set ⟨138, 4, 138, 82⟩ (.nm ⟨138, 4, 138, 18⟩ 2) (.ite ⟨138, 21, 138, 82⟩ (.cmp ⟨138, 39, 138, 58⟩ .gt (.var ⟨138, 39, 138, 54⟩ 1) (.int ⟨138, 57, 138, 58⟩ 0 0)) (.var ⟨138, 21, 138, 35⟩ 2) (.bin ⟨138, 64, 138, 82⟩ .sub (.int ⟨138, 64, 138, 65⟩ 0 0) (.var ⟨138, 68, 138, 82⟩ 2)))) (.cons (.ret ⟨139, 4, 139, 74⟩ (.tup ⟨139, 11, 139, 74⟩ 0 (.cons (.bin ⟨139, 12, 139, 38⟩ .fdiv (.var ⟨139, 12, 139, 20⟩ 0) (.var ⟨139, 24, 139, 38⟩ 2)) (.cons (.bin ⟨139, 40, 139, 73⟩ .fdiv (.var ⟨139, 40, 139, 55⟩ 1) (.var ⟨139, 59, 139, 73⟩ 2)) (.nil))))) (.nil))) }
/-- _law_add -/
def F28 : Fn := { name := "_law_add", N := ["_law_x", "_law_y"], np := 2, io := none, body := .cons (.ret ⟨141, 4, 141, 90⟩ (.call ⟨141, 11, 141, 90⟩ ⟨141, 11, 141, 20⟩ 27 (.cons (.bin ⟨141, 21, 141, 66⟩ .add (.bin ⟨141, 21, 141, 42⟩ .mul (.ix ⟨141, 21, 141, 30⟩ (.var ⟨141, 21, 141, 27⟩ 0) (.int ⟨141, 28, 141, 29⟩ 0 0)) (.ix ⟨141, 33, 141, 42⟩ (.var ⟨141, 33, 141, 39⟩ 1) (.int ⟨141, 40, 141, 41⟩ 0 1))) (.bin ⟨141, 45, 141, 66⟩ .mul (.ix ⟨141, 45, 141, 54⟩ (.var ⟨141, 45, 141, 51⟩ 1) (.int ⟨141, 52, 141, 53⟩ 0 0)) (.ix ⟨141, 57, 141, 66⟩ (.var ⟨141, 57, 141, 63⟩ 0) (.int ⟨141, 64, 141, 65⟩ 0 1)))) (.cons (.bin ⟨141, 68, 141, 89⟩ .mul (.ix ⟨141, 68, 141, 77⟩ (.var ⟨141, 68, 141, 74⟩ 0) (.int ⟨141, 75, 141, 76⟩ 0 1)) (.ix ⟨141, 80, 141, 89⟩ (.var ⟨141, 80, 141, 86⟩ 1) (.int ⟨141, 87, 141, 88⟩ 0 1))) (.nil))))) (.nil) }
/-- _law_sub -/
def F29 : Fn := { name := "_law_sub", N := ["_law_x", "_law_y"], np := 2, io := none, body := .cons (.ret ⟨143, 4, 143, 90⟩ (.call ⟨143, 11, 143, 90⟩ ⟨143, 11, 143, 20⟩ 27 (.cons (.bin ⟨143, 21, 143, 66⟩ .sub (.bin ⟨143, 21, 143, 42⟩ .mul (.ix ⟨143, 21, 143, 30⟩ (.var ⟨143, 21, 143, 27⟩ 0) (.int ⟨143, 28, 143, 29⟩ 0 0)) (.ix ⟨143, 33, 143, 42⟩ (.var ⟨143, 33, 143, 39⟩ 1) (.int ⟨143, 40, 143, 41⟩ 0 1))) (.bin ⟨143, 45, 143, 66⟩ .mul (.ix ⟨143, 45, 143, 54⟩ (.var ⟨143, 45, 143, 51⟩ 1) (.int ⟨143, 52, 143, 53⟩ 0 0)) (.ix ⟨143, 57, 143, 66⟩ (.var ⟨143, 57, 143, 63⟩ 0) (.int ⟨143, 64, 143, 65⟩ 0 1)))) (.cons (.bin ⟨143, 68, 143, 89⟩ .mul (.ix ⟨143, 68, 143, 77⟩ (.var ⟨143, 68, 143, 74⟩ 0) (.int ⟨143, 75, 143, 76⟩ 0 1)) (.ix ⟨143, 80, 143, 89⟩ (.var ⟨143, 80, 143, 86⟩ 1) (.int ⟨143, 87, 143, 88⟩ 0 1))) (.nil))))) (.nil) }
/-- _law_mul -/
def F30 : Fn := { name := "_law_mul", N := ["_law_x", "_law_y"], np := 2, io := none, body := .cons (.ret ⟨145, 4, 145, 66⟩ (.call ⟨145, 11, 145, 66⟩ ⟨145, 11, 145, 20⟩ 27 (.cons (.bin ⟨145, 21, 145, 42⟩ .mul (.ix ⟨145, 21, 145, 30⟩ (.var ⟨145, 21, 145, 27⟩ 0) (.int ⟨145, 28, 145, 29⟩ 0 0)) (.ix ⟨145, 33, 145, 42⟩ (.var ⟨145, 33, 145, 39⟩ 1) (.int ⟨145, 40, 145, 41⟩ 0 0))) (.cons (.bin ⟨145, 44, 145, 65⟩ .mul (.ix ⟨145, 44, 145, 53⟩ (.var ⟨145, 44, 145, 50⟩ 0) (.int ⟨145, 51, 145, 52⟩ 0 1)) (.ix ⟨145, 56, 145, 65⟩ (.var ⟨145, 56, 145, 62⟩ 1) (.int ⟨145, 63, 145, 64⟩ 0 1))) (.nil))))) (.nil) }
/-- _law_div -/
def F31 : Fn := { name := "_law_div", N := ["_law_x", "_law_y"], np := 2, io := none, body := .cons (.ret ⟨147, 4, 147, 66⟩ (.call ⟨147, 11, 147, 66⟩ ⟨147, 11, 147, 20⟩ 27 (.cons (.bin ⟨147, 21, 147, 42⟩ .mul (.ix ⟨147, 21, 147, 30⟩ (.var ⟨147, 21, 147, 27⟩ 0) (.int ⟨147, 28, 147, 29⟩ 0 0)) (.ix ⟨147, 33, 147, 42⟩ (.var ⟨147, 33, 147, 39⟩ 1) (.int ⟨147, 40, 147, 41⟩ 0 1))) (.cons (.bin ⟨147, 44, 147, 65⟩ .mul (.ix ⟨147, 44, 147, 53⟩ (.var ⟨147, 44, 147, 50⟩ 0) (.int ⟨147, 51, 147, 52⟩ 0 1)) (.ix ⟨147, 56, 147, 65⟩ (.var ⟨147, 56, 147, 62⟩ 1) (.int ⟨147, 63, 147, 64⟩ 0 0))) (.nil))))) (.nil) }
/-- _law_under -/
def F32 : Fn := { name := "_law_under", N := ["_law_x", "_law_y"], np := 2, io := none, body := .cons (.ret ⟨149, 4, 149, 56⟩ (.cmp ⟨149, 11, 149, 56⟩ .lt (.bin ⟨149, 11, 149, 32⟩ .mul (.ix ⟨149, 11, 149, 20⟩ (.var ⟨149, 11, 149, 17⟩ 0) (.int ⟨149, 18, 149, 19⟩ 0 0)) (.ix ⟨149, 23, 149, 32⟩ (.var ⟨149, 23, 149, 29⟩ 1) (.int ⟨149, 30, 149, 31⟩ 0 1))) (.bin ⟨149, 35, 149, 56⟩ .mul (.ix ⟨149, 35, 149, 44⟩ (.var ⟨149, 35, 149, 41⟩ 1) (.int ⟨149, 42, 149, 43⟩ 0 0)) (.ix ⟨149, 47, 149, 56⟩ (.var ⟨149, 47, 149, 53⟩ 0) (.int ⟨149, 54, 149, 55⟩ 0 1))))) (.nil) }
/-- _law_upto -/
def F33 : Fn := { name := "_law_upto", N := ["_law_x", "_law_y"], np := 2, io := none, body := .cons (.ret ⟨151, 4, 151, 57⟩ (.cmp ⟨151, 11, 151, 57⟩ .le (.bin ⟨151, 11, 151, 32⟩ .mul (.ix ⟨151, 11, 151, 20⟩ (.var ⟨151, 11, 151, 17⟩ 0) (.int ⟨151, 18, 151, 19⟩ 0 0)) (.ix ⟨151, 23, 151, 32⟩ (.var ⟨151, 23, 151, 29⟩ 1) (.int ⟨151, 30, 151, 31⟩ 0 1))) (.bin ⟨151, 36, 151, 57⟩ .mul (.ix ⟨151, 36, 151, 45⟩ (.var ⟨151, 36, 151, 42⟩ 1) (.int ⟨151, 43, 151, 44⟩ 0 0)) (.ix ⟨151, 48, 151, 57⟩ (.var ⟨151, 48, 151, 54⟩ 0) (.int ⟨151, 55, 151, 56⟩ 0 1))))) (.nil) }
/-- _law_part -/
def F34 : Fn := { name := "_law_part", N := ["_law_x", "_law_y", "_law_by"], np := 3, io := none, body := .cons (.ret ⟨153, 4, 153, 72⟩ (.call ⟨153, 11, 153, 72⟩ ⟨153, 11, 153, 19⟩ 28 (.cons (.var ⟨153, 20, 153, 26⟩ 0) (.cons (.call ⟨153, 28, 153, 71⟩ ⟨153, 28, 153, 36⟩ 30 (.cons (.var ⟨153, 37, 153, 44⟩ 2) (.cons (.call ⟨153, 46, 153, 70⟩ ⟨153, 46, 153, 54⟩ 29 (.cons (.var ⟨153, 55, 153, 61⟩ 1) (.cons (.var ⟨153, 63, 153, 69⟩ 0) (.nil)))) (.nil)))) (.nil))))) (.nil) }
/-- _law_fraction -/
def F35 : Fn := { name := "_law_fraction", N := ["_law_spring_here"], np := 1, io := some 0, body := .cons (.ret ⟨155, 4, 155, 131⟩ (.call ⟨155, 11, 155, 131⟩ ⟨155, 11, 155, 20⟩ 27 (.cons (.bin ⟨155, 21, 155, 57⟩ .sub (.call ⟨155, 21, 155, 52⟩ ⟨155, 21, 155, 30⟩ 24 (.cons (.pk ⟨155, 31, 155, 47⟩ 0) (.cons (.int ⟨155, 49, 155, 51⟩ 0 25) (.nil)))) (.int ⟨155, 55, 155, 57⟩ 0 12)) (.cons (.bin ⟨155, 59, 155, 130⟩ .add (.int ⟨155, 59, 155, 60⟩ 0 1) (.call ⟨155, 63, 155, 130⟩ ⟨155, 63, 155, 72⟩ 24 (.cons (.pk ⟨155, 73, 155, 89⟩ 0) (.cons (.call ⟨155, 91, 155, 129⟩ ⟨155, 91, 155, 100⟩ 25 (.cons (.pk ⟨155, 101, 155, 117⟩ 0) (.cons (.lst ⟨155, 119, 155, 128⟩ (.cons (.int ⟨155, 120, 155, 121⟩ 0 1) (.cons (.int ⟨155, 123, 155, 124⟩ 0 2) (.cons (.int ⟨155, 126, 155, 127⟩ 0 5) (.nil))))) (.nil)))) (.nil))))) (.nil))))) (.nil) }
/-- _law_small -/
def F36 : Fn := { name := "_law_small", N := ["_law_spring_here"], np := 1, io := some 0, body := .cons (.ret ⟨157, 4, 157, 92⟩ (.call ⟨157, 11, 157, 92⟩ ⟨157, 11, 157, 20⟩ 27 (.cons (.bin ⟨157, 21, 157, 55⟩ .add (.int ⟨157, 21, 157, 22⟩ 0 1) (.call ⟨157, 25, 157, 55⟩ ⟨157, 25, 157, 34⟩ 24 (.cons (.pk ⟨157, 35, 157, 51⟩ 0) (.cons (.int ⟨157, 53, 157, 54⟩ 0 4) (.nil))))) (.cons (.bin ⟨157, 57, 157, 91⟩ .add (.int ⟨157, 57, 157, 58⟩ 0 1) (.call ⟨157, 61, 157, 91⟩ ⟨157, 61, 157, 70⟩ 24 (.cons (.pk ⟨157, 71, 157, 87⟩ 0) (.cons (.int ⟨157, 89, 157, 90⟩ 0 2) (.nil))))) (.nil))))) (.nil) }
/-- _law_road -/
def F37 : Fn := { name := "_law_road", N := ["_law_spring_here", "_law_many", "_law_free", "_law_back", "_law_first", "_law_parts", "_law_paces_here", "_law_row", "_law_dens", "_law_flux", "_law_pace", "_law_wide", "_law_part_here"], np := 1, io := some 0, body := .cons (.set ⟨159, 4, 159, 103⟩ (.tup ⟨159, 4, 159, 24⟩ 0 (.cons (.nm ⟨159, 4, 159, 13⟩ 1) (.cons (.nm ⟨159, 15, 159, 24⟩ 2) (.nil)))) (.tup ⟨159, 27, 159, 103⟩ 0 (.cons (.call ⟨159, 28, 159, 72⟩ ⟨159, 28, 159, 37⟩ 25 (.cons (.pk ⟨159, 38, 159, 54⟩ 0) (.cons (.lst ⟨159, 56, 159, 71⟩ (.cons (.int ⟨159, 57, 159, 58⟩ 0 2) (.cons (.int ⟨159, 60, 159, 61⟩ 0 2) (.cons (.int ⟨159, 63, 159, 64⟩ 0 3) (.cons (.int ⟨159, 66, 159, 67⟩ 0 3) (.cons (.int ⟨159, 69, 159, 70⟩ 0 4) (.nil))))))) (.nil)))) (.cons (.call ⟨159, 74, 159, 102⟩ ⟨159, 74, 159, 84⟩ 36 (.cons (.pk ⟨159, 85, 159, 101⟩ 0) (.nil))) (.nil))))) (.cons (.set ⟨160, 4, 160, 101⟩ (.nm ⟨160, 4, 160, 13⟩ 3) (.call ⟨160, 16, 160, 101⟩ ⟨160, 16, 160, 25⟩ 27 (.cons (.bin ⟨160, 26, 160, 64⟩ .sub (.bin ⟨160, 26, 160, 31⟩ .sub (.int ⟨160, 26, 160, 27⟩ 0 0) (.int ⟨160, 30, 160, 31⟩ 0 1)) (.call ⟨160, 34, 160, 64⟩ ⟨160, 34, 160, 43⟩ 24 (.cons (.pk ⟨160, 44, 160, 60⟩ 0) (.cons (.int ⟨160, 62, 160, 63⟩ 0 4) (.nil))))) (.cons (.bin ⟨160, 66, 160, 100⟩ .add (.int ⟨160, 66, 160, 67⟩ 0 1) (.call ⟨160, 70, 160, 100⟩ ⟨160, 70, 160, 79⟩ 24 (.cons (.pk ⟨160, 80, 160, 96⟩ 0) (.cons (.int ⟨160, 98, 160, 99⟩ 0 3) (.nil))))) (.nil))))) (.cons (.set ⟨161, 4, 161, 51⟩ (.nm ⟨161, 4, 161, 14⟩ 4) (.bin ⟨161, 17, 161, 51⟩ .add (.int ⟨161, 17, 161, 18⟩ 0 1) (.call ⟨161, 21, 161, 51⟩ ⟨161, 21, 161, 30⟩ 24 (.cons (.pk ⟨161, 31, 161, 47⟩ 0) (.cons (.int ⟨161, 49, 161, 50⟩ 0 6) (.nil)))))) (.cons (.set ⟨162, 4, 162, 107⟩ (.nm ⟨162, 4, 162, 14⟩ 5) (.sl ⟨162, 17, 162, 107⟩ ⟨162, 92, 162, 106⟩ (.lst ⟨162, 17, 162, 91⟩ (.cons (.var ⟨162, 18, 162, 28⟩ 4) (.cons (.bin ⟨162, 30, 162, 90⟩ .add (.bin ⟨162, 30, 162, 44⟩ .add (.var ⟨162, 30, 162, 40⟩ 4) (.int ⟨162, 43, 162, 44⟩ 0 1)) (.call ⟨162, 47, 162, 90⟩ ⟨162, 47, 162, 56⟩ 24 (.cons (.pk ⟨162, 57, 162, 73⟩ 0) (.cons (.bin ⟨162, 75, 162, 89⟩ .sub (.int ⟨162, 75, 162, 76⟩ 0 7) (.var ⟨162, 79, 162, 89⟩ 4)) (.nil))))) (.nil)))) (.no) (.bin ⟨162, 93, 162, 106⟩ .sub (.var ⟨162, 93, 162, 102⟩ 1) (.int ⟨162, 105, 162, 106⟩ 0 2)))) (.cons (.set ⟨163, 4, 163, 137⟩ (.nmo ⟨163, 4, 163, 19⟩ 6) (.bin ⟨163, 22, 163, 137⟩ .add (.bin ⟨163, 22, 163, 123⟩ .add (.lst ⟨163, 22, 163, 33⟩ (.cons (.var ⟨163, 23, 163, 32⟩ 2) (.nil))) (.comp ⟨163, 36, 163, 123⟩ [("_law_part_here", 12)] { kind := .function, names := [(".0", .local), ("_law_part_here", .local), ("_law_part", .globalImplicit), ("_law_back", .free), ("_law_free", .free)], isGenerator := false, isCoroutine := false, more := [] } (.call ⟨163, 37, 163, 89⟩ ⟨163, 37, 163, 46⟩ 34 (.cons (.var ⟨163, 47, 163, 56⟩ 2) (.cons (.var ⟨163, 58, 163, 67⟩ 3) (.cons (.tup ⟨163, 69, 163, 88⟩ 0 (.cons (.var ⟨163, 70, 163, 84⟩ 12) (.cons (.int ⟨163, 86, 163, 87⟩ 0 8) (.nil)))) (.nil))))) (.nm ⟨163, 94, 163, 108⟩ 12) (.seq (.var ⟨163, 112, 163, 122⟩ 5)) (.no))) (.lst ⟨163, 126, 163, 137⟩ (.cons (.var ⟨163, 127, 163, 136⟩ 3) (.nil))))) (.cons (.ifs ⟨164, 4, 165, 35⟩ (.and ⟨164, 7, 164, 61⟩ (.cons (.cmp ⟨164, 7, 164, 21⟩ .eq (.var ⟨164, 7, 164, 16⟩ 1) (.int ⟨164, 20, 164, 21⟩ 0 3)) (.cons (.cmp ⟨164, 26, 164, 61⟩ .eq (.call ⟨164, 26, 164, 56⟩ ⟨164, 26, 164, 35⟩ 24 (.cons (.pk ⟨164, 36, 164, 52⟩ 0) (.cons (.int ⟨164, 54, 164, 55⟩ 0 3) (.nil)))) (.int ⟨164, 60, 164, 61⟩ 0 0)) (.nil)))) (.cons (.set ⟨165, 8, 165, 35⟩ (.sub ⟨165, 8, 165, 26⟩ ⟨165, 8, 165, 23⟩ 6 (.int ⟨165, 24, 165, 25⟩ 0 1)) (.tup ⟨165, 29, 165, 35⟩ 0 (.cons (.int ⟨165, 30, 165, 31⟩ 0 0) (.cons (.int ⟨165, 33, 165, 34⟩ 0 1) (.nil))))) (.nil)) (.nil)) (.cons (.pv3 ⟨166, 4, 166, 73⟩ ⟨166, 4, 166, 34⟩ ⟨166, 37, 166, 73⟩ 0 0 ⟨166, 4, 166, 12⟩ ⟨166, 14, 166, 23⟩ ⟨166, 25, 166, 34⟩ 7 8 9 (.tmp (.lst ⟨166, 38, 166, 56⟩ (.cons (.tup ⟨166, 39, 166, 55⟩ 0 (.cons (.tup ⟨166, 40, 166, 46⟩ 0 (.cons (.int ⟨166, 41, 166, 42⟩ 0 0) (.cons (.int ⟨166, 44, 166, 45⟩ 0 1) (.nil)))) (.cons (.tup ⟨166, 48, 166, 54⟩ 0 (.cons (.int ⟨166, 49, 166, 50⟩ 0 0) (.cons (.int ⟨166, 52, 166, 53⟩ 0 1) (.nil)))) (.nil)))) (.nil)))) (.tup ⟨166, 58, 166, 64⟩ 0 (.cons (.int ⟨166, 59, 166, 60⟩ 0 0) (.cons (.int ⟨166, 62, 166, 63⟩ 0 1) (.nil)))) (.tup ⟨166, 66, 166, 72⟩ 0 (.cons (.int ⟨166, 67, 166, 68⟩ 0 0) (.cons (.int ⟨166, 70, 166, 71⟩ 0 1) (.nil))))) (.cons (.fors ⟨167, 4, 172, 47⟩ (.nm ⟨167, 8, 167, 17⟩ 10) (.seq (.sl ⟨167, 21, 167, 41⟩ ⟨167, 37, 167, 40⟩ (.pk ⟨167, 21, 167, 36⟩ 6) (.no) (.neg ⟨167, 38, 167, 40⟩ (.int ⟨167, 39, 167, 40⟩ 0 1)))) (.cons (.set ⟨168, 8, 168, 101⟩ (.nm ⟨168, 8, 168, 17⟩ 11) (.call ⟨168, 20, 168, 101⟩ ⟨168, 20, 168, 29⟩ 27 (.cons (.bin ⟨168, 30, 168, 64⟩ .add (.int ⟨168, 30, 168, 31⟩ 0 1) (.call ⟨168, 34, 168, 64⟩ ⟨168, 34, 168, 43⟩ 24 (.cons (.pk ⟨168, 44, 168, 60⟩ 0) (.cons (.int ⟨168, 62, 168, 63⟩ 0 3) (.nil))))) (.cons (.bin ⟨168, 66, 168, 100⟩ .add (.int ⟨168, 66, 168, 67⟩ 0 1) (.call ⟨168, 70, 168, 100⟩ ⟨168, 70, 168, 79⟩ 24 (.cons (.pk ⟨168, 80, 168, 96⟩ 0) (.cons (.int ⟨168, 98, 168, 99⟩ 0 2) (.nil))))) (.nil))))) (.cons (.ifs ⟨169, 8, 170, 76⟩ (.cmp ⟨169, 11, 169, 70⟩ .le (.ix ⟨169, 11, 169, 65⟩ (.call ⟨169, 11, 169, 62⟩ ⟨169, 11, 169, 19⟩ 28 (.cons (.var ⟨169, 20, 169, 29⟩ 9) (.cons (.call ⟨169, 31, 169, 61⟩ ⟨169, 31, 169, 39⟩ 30 (.cons (.var ⟨169, 40, 169, 49⟩ 10) (.cons (.var ⟨169, 51, 169, 60⟩ 11) (.nil)))) (.nil)))) (.int ⟨169, 63, 169, 64⟩ 0 0)) (.int ⟨169, 69, 169, 70⟩ 0 0)) (.cons (.set ⟨170, 12, 170, 76⟩ (.nm ⟨170, 12, 170, 21⟩ 11) (.call ⟨170, 24, 170, 76⟩ ⟨170, 24, 170, 32⟩ 31 (.cons (.var ⟨170, 33, 170, 42⟩ 9) (.cons (.call ⟨170, 44, 170, 75⟩ ⟨170, 44, 170, 52⟩ 30 (.cons (.tup ⟨170, 53, 170, 63⟩ 0 (.cons (.bin ⟨170, 54, 170, 59⟩ .sub (.int ⟨170, 54, 170, 55⟩ 0 0) (.int ⟨170, 58, 170, 59⟩ 0 2)) (.cons (.int ⟨170, 61, 170, 62⟩ 0 1) (.nil)))) (.cons (.var ⟨170, 65, 170, 74⟩ 10) (.nil)))) (.nil))))) (.nil)) (.nil)) (.cons (.par2 ⟨171, 8, 171, 116⟩ ⟨171, 8, 171, 28⟩ ⟨171, 31, 171, 116⟩ 0 0 ⟨171, 8, 171, 17⟩ ⟨171, 19, 171, 28⟩ 8 9 (.call ⟨171, 32, 171, 62⟩ ⟨171, 32, 171, 40⟩ 28 (.cons (.var ⟨171, 41, 171, 50⟩ 8) (.cons (.var ⟨171, 52, 171, 61⟩ 11) (.nil)))) (.call ⟨171, 64, 171, 115⟩ ⟨171, 64, 171, 72⟩ 28 (.cons (.var ⟨171, 73, 171, 82⟩ 9) (.cons (.call ⟨171, 84, 171, 114⟩ ⟨171, 84, 171, 92⟩ 30 (.cons (.var ⟨171, 93, 171, 102⟩ 10) (.cons (.var ⟨171, 104, 171, 113⟩ 11) (.nil)))) (.nil))))) (.cons (.app ⟨172, 8, 172, 47⟩ ⟨172, 8, 172, 47⟩ ⟨172, 8, 172, 23⟩ ⟨172, 8, 172, 16⟩ 7 (.tup ⟨172, 24, 172, 46⟩ 0 (.cons (.var ⟨172, 25, 172, 34⟩ 8) (.cons (.var ⟨172, 36, 172, 45⟩ 9) (.nil))))) (.nil)))))) (.cons (.app ⟨173, 4, 173, 82⟩ ⟨173, 4, 173, 82⟩ ⟨173, 4, 173, 19⟩ ⟨173, 4, 173, 12⟩ 7 (.tup ⟨173, 20, 173, 81⟩ 0 (.cons (.call ⟨173, 21, 173, 72⟩ ⟨173, 21, 173, 29⟩ 29 (.cons (.var ⟨173, 30, 173, 39⟩ 8) (.cons (.call ⟨173, 41, 173, 71⟩ ⟨173, 41, 173, 49⟩ 31 (.cons (.var ⟨173, 50, 173, 59⟩ 9) (.cons (.var ⟨173, 61, 173, 70⟩ 3) (.nil)))) (.nil)))) (.cons (.tup ⟨173, 74, 173, 80⟩ 0 (.cons (.int ⟨173, 75, 173, 76⟩ 0 0) (.cons (.int ⟨173, 78, 173, 79⟩ 0 1) (.nil)))) (.nil))))) (.cons (.ret ⟨174, 4, 174, 26⟩ (.bi ⟨174, 11, 174, 26⟩ ⟨174, 11, 174, 16⟩ .tuple (.cons (.pk ⟨174, 17, 174, 25⟩ 7) (.nil)))) (.nil)))))))))) }
/-- _law_long_road -/
def F38 : Fn := { name := "_law_long_road", N := ["_law_spring_here", "_law_many", "_law_wide", "_law_tall", "_law_k"], np := 2, io := some 0, body := .cons (.set ⟨176, 4, 176, 87⟩ (.tup ⟨176, 4, 176, 24⟩ 0 (.cons (.nm ⟨176, 4, 176, 13⟩ 2) (.cons (.nm ⟨176, 15, 176, 24⟩ 3) (.nil)))) (.tup ⟨176, 27, 176, 87⟩ 0 (.cons (.call ⟨176, 28, 176, 56⟩ ⟨176, 28, 176, 38⟩ 36 (.cons (.pk ⟨176, 39, 176, 55⟩ 0) (.nil))) (.cons (.call ⟨176, 58, 176, 86⟩ ⟨176, 58, 176, 68⟩ 36 (.cons (.pk ⟨176, 69, 176, 85⟩ 0) (.nil))) (.nil))))) (.cons (.ret ⟨177, 4, 177, 146⟩ (.bi ⟨177, 11, 177, 146⟩ ⟨177, 11, 177, 16⟩ .tuple (.cons (.comp ⟨177, 17, 177, 145⟩ [("_law_k", 4)] { kind := .function, names := [(".0", .local), ("_law_k", .local), ("_law_mul", .globalImplicit), ("_law_many", .free), ("_law_tall", .free), ("_law_wide", .free)], isGenerator := false, isCoroutine := false, more := [] } (.tup ⟨177, 18, 177, 113⟩ 0 (.cons (.call ⟨177, 19, 177, 51⟩ ⟨177, 19, 177, 27⟩ 30 (.cons (.var ⟨177, 28, 177, 37⟩ 2) (.cons (.tup ⟨177, 39, 177, 50⟩ 0 (.cons (.var ⟨177, 40, 177, 46⟩ 4) (.cons (.int ⟨177, 48, 177, 49⟩ 0 1) (.nil)))) (.nil)))) (.cons (.call ⟨177, 53, 177, 112⟩ ⟨177, 53, 177, 61⟩ 30 (.cons (.var ⟨177, 62, 177, 71⟩ 3) (.cons (.tup ⟨177, 73, 177, 111⟩ 0 (.cons (.bin ⟨177, 74, 177, 107⟩ .mul (.var ⟨177, 74, 177, 80⟩ 4) (.bin ⟨177, 84, 177, 106⟩ .sub (.bin ⟨177, 84, 177, 97⟩ .sub (.var ⟨177, 84, 177, 93⟩ 1) (.int ⟨177, 96, 177, 97⟩ 0 1)) (.var ⟨177, 100, 177, 106⟩ 4))) (.cons (.int ⟨177, 109, 177, 110⟩ 0 1) (.nil)))) (.nil)))) (.nil)))) (.nm ⟨177, 118, 177, 124⟩ 4) (.rng1 ⟨177, 128, 177, 144⟩ ⟨177, 128, 177, 133⟩ (.var ⟨177, 134, 177, 143⟩ 1)) (.no)) (.nil)))) (.nil)) }
/-- _law_paces -/
def F39 : Fn := { name := "_law_paces", N := ["_law_road_here", "_law_found", "_law_k"], np := 1, io := none, body := .cons (.set ⟨179, 4, 179, 19⟩ (.nmo ⟨179, 4, 179, 14⟩ 1) (.lst ⟨179, 17, 179, 19⟩ (.nil))) (.cons (.fors ⟨180, 4, 181, 171⟩ (.nm ⟨180, 8, 180, 14⟩ 2) (.rng1 ⟨180, 18, 180, 48⟩ ⟨180, 18, 180, 23⟩ (.bin ⟨180, 24, 180, 47⟩ .sub (.bi ⟨180, 24, 180, 43⟩ ⟨180, 24, 180, 27⟩ .len (.cons (.var ⟨180, 28, 180, 42⟩ 0) (.nil))) (.int ⟨180, 46, 180, 47⟩ 0 1))) (.cons (.app ⟨181, 8, 181, 171⟩ ⟨181, 8, 181, 171⟩ ⟨181, 8, 181, 25⟩ ⟨181, 8, 181, 18⟩ 1 (.call ⟨181, 26, 181, 170⟩ ⟨181, 26, 181, 34⟩ 31 (.cons (.call ⟨181, 35, 181, 101⟩ ⟨181, 35, 181, 43⟩ 29 (.cons (.ix ⟨181, 44, 181, 73⟩ (.ix ⟨181, 44, 181, 70⟩ (.var ⟨181, 44, 181, 58⟩ 0) (.bin ⟨181, 59, 181, 69⟩ .add (.var ⟨181, 59, 181, 65⟩ 2) (.int ⟨181, 68, 181, 69⟩ 0 1))) (.int ⟨181, 71, 181, 72⟩ 0 1)) (.cons (.ix ⟨181, 75, 181, 100⟩ (.ix ⟨181, 75, 181, 97⟩ (.var ⟨181, 75, 181, 89⟩ 0) (.var ⟨181, 90, 181, 96⟩ 2)) (.int ⟨181, 98, 181, 99⟩ 0 1)) (.nil)))) (.cons (.call ⟨181, 103, 181, 169⟩ ⟨181, 103, 181, 111⟩ 29 (.cons (.ix ⟨181, 112, 181, 141⟩ (.ix ⟨181, 112, 181, 138⟩ (.var ⟨181, 112, 181, 126⟩ 0) (.bin ⟨181, 127, 181, 137⟩ .add (.var ⟨181, 127, 181, 133⟩ 2) (.int ⟨181, 136, 181, 137⟩ 0 1))) (.int ⟨181, 139, 181, 140⟩ 0 0)) (.cons (.ix ⟨181, 143, 181, 168⟩ (.ix ⟨181, 143, 181, 165⟩ (.var ⟨181, 143, 181, 157⟩ 0) (.var ⟨181, 158, 181, 164⟩ 2)) (.int ⟨181, 166, 181, 167⟩ 0 0)) (.nil)))) (.nil))))) (.nil))) (.cons (.ret ⟨182, 4, 182, 21⟩ (.mv ⟨182, 11, 182, 21⟩ 1)) (.nil))) }
/-- _law_toll -/
def F40 : Fn := { name := "_law_toll", N := ["_law_road_here", "_law_dx", "_law_dt", "_law_best", "_law_dens", "_law_flux", "_law_over", "_law_under_here"], np := 3, io := none, body := .cons (.set ⟨184, 4, 184, 22⟩ (.nm ⟨184, 4, 184, 13⟩ 3) (.tup ⟨184, 16, 184, 22⟩ 0 (.cons (.int ⟨184, 17, 184, 18⟩ 0 0) (.cons (.int ⟨184, 20, 184, 21⟩ 0 1) (.nil))))) (.cons (.fors ⟨185, 4, 189, 52⟩ (.tup ⟨185, 8, 185, 28⟩ 0 (.cons (.nm ⟨185, 8, 185, 17⟩ 4) (.cons (.nm ⟨185, 19, 185, 28⟩ 5) (.nil)))) (.seq (.var ⟨185, 32, 185, 46⟩ 0)) (.cons (.set ⟨186, 8, 186, 129⟩ (.nm ⟨186, 8, 186, 17⟩ 6) (.bin ⟨186, 20, 186, 129⟩ .sub (.bin ⟨186, 20, 186, 73⟩ .mul (.bin ⟨186, 20, 186, 60⟩ .mul (.bin ⟨186, 20, 186, 45⟩ .mul (.ix ⟨186, 20, 186, 32⟩ (.var ⟨186, 20, 186, 29⟩ 5) (.int ⟨186, 30, 186, 31⟩ 0 0)) (.ix ⟨186, 35, 186, 45⟩ (.var ⟨186, 35, 186, 42⟩ 2) (.int ⟨186, 43, 186, 44⟩ 0 0))) (.ix ⟨186, 48, 186, 60⟩ (.var ⟨186, 48, 186, 57⟩ 4) (.int ⟨186, 58, 186, 59⟩ 0 1))) (.ix ⟨186, 63, 186, 73⟩ (.var ⟨186, 63, 186, 70⟩ 1) (.int ⟨186, 71, 186, 72⟩ 0 1))) (.bin ⟨186, 76, 186, 129⟩ .mul (.bin ⟨186, 76, 186, 116⟩ .mul (.bin ⟨186, 76, 186, 101⟩ .mul (.ix ⟨186, 76, 186, 88⟩ (.var ⟨186, 76, 186, 85⟩ 4) (.int ⟨186, 86, 186, 87⟩ 0 0)) (.ix ⟨186, 91, 186, 101⟩ (.var ⟨186, 91, 186, 98⟩ 1) (.int ⟨186, 99, 186, 100⟩ 0 0))) (.ix ⟨186, 104, 186, 116⟩ (.var ⟨186, 104, 186, 113⟩ 5) (.int ⟨186, 114, 186, 115⟩ 0 1))) (.ix ⟨186, 119, 186, 129⟩ (.var ⟨186, 119, 186, 126⟩ 2) (.int ⟨186, 127, 186, 128⟩ 0 1))))) (.cons (.set ⟨187, 8, 187, 79⟩ (.nm ⟨187, 8, 187, 23⟩ 7) (.bin ⟨187, 26, 187, 79⟩ .mul (.bin ⟨187, 26, 187, 66⟩ .mul (.bin ⟨187, 26, 187, 51⟩ .mul (.ix ⟨187, 26, 187, 38⟩ (.var ⟨187, 26, 187, 35⟩ 5) (.int ⟨187, 36, 187, 37⟩ 0 1)) (.ix ⟨187, 41, 187, 51⟩ (.var ⟨187, 41, 187, 48⟩ 2) (.int ⟨187, 49, 187, 50⟩ 0 1))) (.ix ⟨187, 54, 187, 66⟩ (.var ⟨187, 54, 187, 63⟩ 4) (.int ⟨187, 64, 187, 65⟩ 0 1))) (.ix ⟨187, 69, 187, 79⟩ (.var ⟨187, 69, 187, 76⟩ 1) (.int ⟨187, 77, 187, 78⟩ 0 1)))) (.cons (.ifs ⟨188, 8, 189, 52⟩ (.cmp ⟨188, 11, 188, 68⟩ .gt (.bin ⟨188, 11, 188, 35⟩ .mul (.var ⟨188, 11, 188, 20⟩ 6) (.ix ⟨188, 23, 188, 35⟩ (.var ⟨188, 23, 188, 32⟩ 3) (.int ⟨188, 33, 188, 34⟩ 0 1))) (.bin ⟨188, 38, 188, 68⟩ .mul (.ix ⟨188, 38, 188, 50⟩ (.var ⟨188, 38, 188, 47⟩ 3) (.int ⟨188, 48, 188, 49⟩ 0 0)) (.var ⟨188, 53, 188, 68⟩ 7))) (.cons (.set ⟨189, 12, 189, 52⟩ (.nm ⟨189, 12, 189, 21⟩ 3) (.tup ⟨189, 24, 189, 52⟩ 0 (.cons (.var ⟨189, 25, 189, 34⟩ 6) (.cons (.var ⟨189, 36, 189, 51⟩ 7) (.nil))))) (.nil)) (.nil)) (.nil))))) (.cons (.ret ⟨190, 4, 190, 48⟩ (.call ⟨190, 11, 190, 48⟩ ⟨190, 11, 190, 20⟩ 27 (.cons (.ix ⟨190, 21, 190, 33⟩ (.var ⟨190, 21, 190, 30⟩ 3) (.int ⟨190, 31, 190, 32⟩ 0 0)) (.cons (.ix ⟨190, 35, 190, 47⟩ (.var ⟨190, 35, 190, 44⟩ 3) (.int ⟨190, 45, 190, 46⟩ 0 1)) (.nil))))) (.nil))) }
/-- _law_lets -/
def F41 : Fn := { name := "_law_lets", N := ["_law_paces_here", "_law_dx", "_law_dt"], np := 3, io := none, body := .cons (.ret ⟨192, 4, 192, 151⟩ (.and ⟨192, 11, 192, 151⟩ (.cons (.cmp ⟨192, 11, 192, 26⟩ .ge (.ix ⟨192, 11, 192, 21⟩ (.var ⟨192, 11, 192, 18⟩ 2) (.int ⟨192, 19, 192, 20⟩ 0 0)) (.int ⟨192, 25, 192, 26⟩ 0 0)) (.cons (.call ⟨192, 31, 192, 89⟩ ⟨192, 31, 192, 40⟩ 33 (.cons (.call ⟨192, 41, 192, 79⟩ ⟨192, 41, 192, 49⟩ 30 (.cons (.ix ⟨192, 50, 192, 69⟩ (.var ⟨192, 50, 192, 65⟩ 0) (.neg ⟨192, 66, 192, 68⟩ (.int ⟨192, 67, 192, 68⟩ 0 1))) (.cons (.var ⟨192, 71, 192, 78⟩ 2) (.nil)))) (.cons (.var ⟨192, 81, 192, 88⟩ 1) (.nil)))) (.cons (.call ⟨192, 94, 192, 151⟩ ⟨192, 94, 192, 103⟩ 33 (.cons (.var ⟨192, 104, 192, 111⟩ 1) (.cons (.call ⟨192, 113, 192, 150⟩ ⟨192, 113, 192, 121⟩ 30 (.cons (.ix ⟨192, 122, 192, 140⟩ (.var ⟨192, 122, 192, 137⟩ 0) (.int ⟨192, 138, 192, 139⟩ 0 0)) (.cons (.var ⟨192, 142, 192, 149⟩ 2) (.nil)))) (.nil)))) (.nil)))))) (.nil) }
/-- _law_rate -/
def F42 : Fn := { name := "_law_rate", N := ["_law_road_here", "_law_pace"], np := 2, io := none, body := .cons (.ret ⟨194, 4, 194, 55⟩ (.call ⟨194, 11, 194, 55⟩ ⟨194, 11, 194, 20⟩ 40 (.cons (.var ⟨194, 21, 194, 35⟩ 0) (.cons (.var ⟨194, 37, 194, 46⟩ 1) (.cons (.tup ⟨194, 48, 194, 54⟩ 0 (.cons (.int ⟨194, 49, 194, 50⟩ 0 1) (.cons (.int ⟨194, 52, 194, 53⟩ 0 1) (.nil)))) (.nil)))))) (.nil) }
/-- _law_step -/
def F43 : Fn := { name := "_law_step", N := ["_law_spring_here", "_law_paces_here", "_law_pace", "_law_dt"], np := 2, io := some 0, body := .cons (.set ⟨196, 4, 196, 105⟩ (.nm ⟨196, 4, 196, 13⟩ 2) (.call ⟨196, 16, 196, 105⟩ ⟨196, 16, 196, 25⟩ 34 (.cons (.ix ⟨196, 26, 196, 45⟩ (.var ⟨196, 26, 196, 41⟩ 1) (.neg ⟨196, 42, 196, 44⟩ (.int ⟨196, 43, 196, 44⟩ 0 1))) (.cons (.ix ⟨196, 47, 196, 65⟩ (.var ⟨196, 47, 196, 62⟩ 1) (.int ⟨196, 63, 196, 64⟩ 0 0)) (.cons (.tup ⟨196, 67, 196, 104⟩ 0 (.cons (.call ⟨196, 68, 196, 99⟩ ⟨196, 68, 196, 77⟩ 24 (.cons (.pk ⟨196, 78, 196, 94⟩ 0) (.cons (.int ⟨196, 96, 196, 98⟩ 0 13) (.nil)))) (.cons (.int ⟨196, 101, 196, 103⟩ 0 12) (.nil)))) (.nil)))))) (.cons (.set ⟨197, 4, 197, 113⟩ (.nm ⟨197, 4, 197, 13⟩ 2) (.call ⟨197, 16, 197, 113⟩ ⟨197, 16, 197, 25⟩ 25 (.cons (.pk ⟨197, 26, 197, 42⟩ 0) (.cons (.lst ⟨197, 44, 197, 112⟩ (.cons (.var ⟨197, 45, 197, 54⟩ 2) (.cons (.var ⟨197, 56, 197, 65⟩ 2) (.cons (.call ⟨197, 67, 197, 111⟩ ⟨197, 67, 197, 76⟩ 25 (.cons (.pk ⟨197, 77, 197, 93⟩ 0) (.cons (.var ⟨197, 95, 197, 110⟩ 1) (.nil)))) (.nil))))) (.nil))))) (.cons (.set ⟨198, 4, 198, 91⟩ (.nm ⟨198, 4, 198, 11⟩ 3) (.call ⟨198, 14, 198, 91⟩ ⟨198, 14, 198, 23⟩ 27 (.cons (.call ⟨198, 24, 198, 54⟩ ⟨198, 24, 198, 33⟩ 24 (.cons (.pk ⟨198, 34, 198, 50⟩ 0) (.cons (.int ⟨198, 52, 198, 53⟩ 0 9) (.nil)))) (.cons (.bin ⟨198, 56, 198, 90⟩ .add (.int ⟨198, 56, 198, 57⟩ 0 1) (.call ⟨198, 60, 198, 90⟩ ⟨198, 60, 198, 69⟩ 24 (.cons (.pk ⟨198, 70, 198, 86⟩ 0) (.cons (.int ⟨198, 88, 198, 89⟩ 0 4) (.nil))))) (.nil))))) (.cons (.ret ⟨199, 4, 199, 50⟩ (.tup ⟨199, 11, 199, 50⟩ 0 (.cons (.call ⟨199, 12, 199, 40⟩ ⟨199, 12, 199, 20⟩ 30 (.cons (.var ⟨199, 21, 199, 30⟩ 2) (.cons (.var ⟨199, 32, 199, 39⟩ 3) (.nil)))) (.cons (.var ⟨199, 42, 199, 49⟩ 3) (.nil))))) (.nil)))) }
/-- _law_told -/
def F44 : Fn := { name := "_law_told", N := ["_law_road_here", "_law_dx", "_law_dt", "_law_found", "e"], np := 3, io := none, body := .cons (.set ⟨201, 4, 201, 23⟩ (.nm ⟨201, 4, 201, 14⟩ 3) (.str ⟨201, 17, 201, 23⟩ 0 "none")) (.cons (.tr ⟨202, 4, 205, 58⟩ (.cons (.set ⟨203, 8, 203, 59⟩ (.nm ⟨203, 8, 203, 18⟩ 3) (.call ⟨203, 21, 203, 59⟩ ⟨203, 21, 203, 25⟩ 21 (.cons (.var ⟨203, 26, 203, 40⟩ 0) (.cons (.var ⟨203, 42, 203, 49⟩ 1) (.cons (.var ⟨203, 51, 203, 58⟩ 2) (.nil)))))) (.nil)) [⟨"NoStep", ⟨204, 11, 204, 17⟩, ⟨204, 4, 205, 58⟩, [("NoStep", true)], 4, [.set ⟨205, 8, 205, 58⟩ ⟨205, 8, 205, 18⟩ 3 (.lst ⟨205, 21, 205, 58⟩ (.cons (.str ⟨205, 22, 205, 31⟩ 0 "no step") (.cons (.isi ⟨205, 33, 205, 57⟩ ⟨205, 33, 205, 43⟩ ⟨205, 44, 205, 45⟩ ⟨205, 47, 205, 56⟩ "RoadError" [("NoStep", true)]) (.nil))))]⟩]) (.cons (.ret ⟨206, 4, 206, 21⟩ (.var ⟨206, 11, 206, 21⟩ 3)) (.nil))) }
/-- _law_right -/
def F45 : Fn := { name := "_law_right", N := ["_law_spring_here", "_law_road_here", "_law_paces_here", "_law_one", "_law_two", "_law_dx", "_law_dt", "_law_due", "_law_pace", "_law_rate_here", "_law_both", "_law_times", "_law_far", "_law_edge"], np := 1, io := some 0, body := .cons (.set ⟨208, 4, 208, 160⟩ (.nm ⟨208, 4, 208, 18⟩ 1) (.ite ⟨208, 21, 208, 160⟩ (.cmp ⟨208, 52, 208, 86⟩ .gt (.call ⟨208, 52, 208, 82⟩ ⟨208, 52, 208, 61⟩ 24 (.cons (.pk ⟨208, 62, 208, 78⟩ 0) (.cons (.int ⟨208, 80, 208, 81⟩ 0 5) (.nil)))) (.int ⟨208, 85, 208, 86⟩ 0 0)) (.call ⟨208, 21, 208, 48⟩ ⟨208, 21, 208, 30⟩ 37 (.cons (.pk ⟨208, 31, 208, 47⟩ 0) (.nil))) (.call ⟨208, 92, 208, 160⟩ ⟨208, 92, 208, 106⟩ 38 (.cons (.pk ⟨208, 107, 208, 123⟩ 0) (.cons (.bin ⟨208, 125, 208, 159⟩ .add (.int ⟨208, 125, 208, 126⟩ 0 5) (.call ⟨208, 129, 208, 159⟩ ⟨208, 129, 208, 138⟩ 24 (.cons (.pk ⟨208, 139, 208, 155⟩ 0) (.cons (.int ⟨208, 157, 208, 158⟩ 0 8) (.nil))))) (.nil)))))) (.cons (.set ⟨209, 4, 209, 48⟩ (.nm ⟨209, 4, 209, 19⟩ 2) (.call ⟨209, 22, 209, 48⟩ ⟨209, 22, 209, 32⟩ 39 (.cons (.var ⟨209, 33, 209, 47⟩ 1) (.nil)))) (.cons (.par2 ⟨210, 4, 210, 117⟩ ⟨210, 4, 210, 22⟩ ⟨210, 25, 210, 117⟩ 0 0 ⟨210, 4, 210, 12⟩ ⟨210, 14, 210, 22⟩ 3 4 (.call ⟨210, 26, 210, 70⟩ ⟨210, 26, 210, 35⟩ 43 (.cons (.pk ⟨210, 36, 210, 52⟩ 0) (.cons (.var ⟨210, 54, 210, 69⟩ 2) (.nil)))) (.call ⟨210, 72, 210, 116⟩ ⟨210, 72, 210, 81⟩ 43 (.cons (.pk ⟨210, 82, 210, 98⟩ 0) (.cons (.var ⟨210, 100, 210, 115⟩ 2) (.nil))))) (.cons (.fors ⟨211, 4, 219, 28⟩ (.tup ⟨211, 8, 211, 24⟩ 0 (.cons (.nm ⟨211, 8, 211, 15⟩ 5) (.cons (.nm ⟨211, 17, 211, 24⟩ 6) (.nil)))) (.seq (.lst ⟨211, 28, 211, 48⟩ (.cons (.var ⟨211, 29, 211, 37⟩ 3) (.cons (.var ⟨211, 39, 211, 47⟩ 4) (.nil))))) (.cons (.set ⟨212, 8, 212, 62⟩ (.nm ⟨212, 8, 212, 16⟩ 7) (.call ⟨212, 19, 212, 62⟩ ⟨212, 19, 212, 28⟩ 40 (.cons (.var ⟨212, 29, 212, 43⟩ 1) (.cons (.var ⟨212, 45, 212, 52⟩ 5) (.cons (.var ⟨212, 54, 212, 61⟩ 6) (.nil)))))) (.cons (.ifs ⟨213, 8, 214, 24⟩ (.cmp ⟨213, 11, 213, 150⟩ .ne (.bi ⟨213, 11, 213, 120⟩ ⟨213, 11, 213, 15⟩ .repr (.cons (.lst ⟨213, 16, 213, 119⟩ (.cons (.call ⟨213, 17, 213, 55⟩ ⟨213, 17, 213, 21⟩ 21 (.cons (.var ⟨213, 22, 213, 36⟩ 1) (.cons (.var ⟨213, 38, 213, 45⟩ 5) (.cons (.var ⟨213, 47, 213, 54⟩ 6) (.nil))))) (.cons (.callk ⟨213, 57, 213, 118⟩ ⟨213, 57, 213, 61⟩ 21 (.nil) [("duration", ⟨213, 62, 213, 78⟩), ("distance", ⟨213, 80, 213, 96⟩), ("kind", ⟨213, 98, 213, 117⟩)] (.cons (.var ⟨213, 71, 213, 78⟩ 6) (.cons (.var ⟨213, 89, 213, 96⟩ 5) (.cons (.var ⟨213, 103, 213, 117⟩ 1) (.nil)))) [2, 1, 0]) (.nil)))) (.nil))) (.bi ⟨213, 124, 213, 150⟩ ⟨213, 124, 213, 128⟩ .repr (.cons (.lst ⟨213, 129, 213, 149⟩ (.cons (.var ⟨213, 130, 213, 138⟩ 7) (.cons (.var ⟨213, 140, 213, 148⟩ 7) (.nil)))) (.nil)))) (.cons (.ret ⟨214, 12, 214, 24⟩ (.bl ⟨214, 19, 214, 24⟩ 0 false)) (.nil)) (.nil)) (.cons (.ifs ⟨215, 8, 219, 28⟩ (.cmp ⟨215, 11, 215, 25⟩ .gt (.ix ⟨215, 11, 215, 21⟩ (.var ⟨215, 11, 215, 18⟩ 6) (.int ⟨215, 19, 215, 20⟩ 0 0)) (.int ⟨215, 24, 215, 25⟩ 0 0)) (.cons (.set ⟨216, 12, 216, 50⟩ (.nm ⟨216, 12, 216, 21⟩ 8) (.call ⟨216, 24, 216, 50⟩ ⟨216, 24, 216, 32⟩ 31 (.cons (.var ⟨216, 33, 216, 40⟩ 5) (.cons (.var ⟨216, 42, 216, 49⟩ 6) (.nil))))) (.cons (.par2 ⟨217, 12, 217, 115⟩ ⟨217, 12, 217, 36⟩ ⟨217, 39, 217, 115⟩ 0 0 ⟨217, 12, 217, 20⟩ ⟨217, 22, 217, 36⟩ 7 9 (.call ⟨217, 40, 217, 76⟩ ⟨217, 40, 217, 49⟩ 42 (.cons (.var ⟨217, 50, 217, 64⟩ 1) (.cons (.var ⟨217, 66, 217, 75⟩ 8) (.nil)))) (.call ⟨217, 78, 217, 114⟩ ⟨217, 78, 217, 87⟩ 22 (.cons (.var ⟨217, 88, 217, 102⟩ 1) (.cons (.var ⟨217, 104, 217, 113⟩ 8) (.nil))))) (.cons (.ifs ⟨218, 12, 219, 28⟩ (.cmp ⟨218, 15, 218, 185⟩ .ne (.bi ⟨218, 15, 218, 115⟩ ⟨218, 15, 218, 19⟩ .repr (.cons (.lst ⟨218, 20, 218, 114⟩ (.cons (.var ⟨218, 21, 218, 35⟩ 9) (.cons (.callk ⟨218, 37, 218, 84⟩ ⟨218, 37, 218, 46⟩ 22 (.nil) [("speed", ⟨218, 47, 218, 62⟩), ("kind", ⟨218, 64, 218, 83⟩)] (.cons (.var ⟨218, 53, 218, 62⟩ 8) (.cons (.var ⟨218, 69, 218, 83⟩ 1) (.nil))) [1, 0]) (.cons (.call ⟨218, 86, 218, 113⟩ ⟨218, 86, 218, 94⟩ 30 (.cons (.var ⟨218, 95, 218, 103⟩ 7) (.cons (.var ⟨218, 105, 218, 112⟩ 6) (.nil)))) (.nil))))) (.nil))) (.bi ⟨218, 119, 218, 185⟩ ⟨218, 119, 218, 123⟩ .repr (.cons (.lst ⟨218, 124, 218, 184⟩ (.cons (.var ⟨218, 125, 218, 133⟩ 7) (.cons (.var ⟨218, 135, 218, 143⟩ 7) (.cons (.call ⟨218, 145, 218, 183⟩ ⟨218, 145, 218, 149⟩ 21 (.cons (.var ⟨218, 150, 218, 164⟩ 1) (.cons (.var ⟨218, 166, 218, 173⟩ 5) (.cons (.var ⟨218, 175, 218, 182⟩ 6) (.nil))))) (.nil))))) (.nil)))) (.cons (.ret ⟨219, 16, 219, 28⟩ (.bl ⟨219, 23, 219, 28⟩ 0 false)) (.nil)) (.nil)) (.nil)))) (.nil)) (.nil))))) (.cons (.set ⟨220, 4, 220, 108⟩ (.nm ⟨220, 4, 220, 13⟩ 10) (.call ⟨220, 16, 220, 108⟩ ⟨220, 16, 220, 20⟩ 21 (.cons (.var ⟨220, 21, 220, 35⟩ 1) (.cons (.call ⟨220, 37, 220, 71⟩ ⟨220, 37, 220, 45⟩ 28 (.cons (.ix ⟨220, 46, 220, 57⟩ (.var ⟨220, 46, 220, 54⟩ 3) (.int ⟨220, 55, 220, 56⟩ 0 0)) (.cons (.ix ⟨220, 59, 220, 70⟩ (.var ⟨220, 59, 220, 67⟩ 4) (.int ⟨220, 68, 220, 69⟩ 0 0)) (.nil)))) (.cons (.call ⟨220, 73, 220, 107⟩ ⟨220, 73, 220, 81⟩ 28 (.cons (.ix ⟨220, 82, 220, 93⟩ (.var ⟨220, 82, 220, 90⟩ 3) (.int ⟨220, 91, 220, 92⟩ 0 1)) (.cons (.ix ⟨220, 95, 220, 106⟩ (.var ⟨220, 95, 220, 103⟩ 4) (.int ⟨220, 104, 220, 105⟩ 0 1)) (.nil)))) (.nil)))))) (.cons (.ifs ⟨221, 4, 222, 20⟩ (.call ⟨221, 7, 221, 134⟩ ⟨221, 7, 221, 17⟩ 32 (.cons (.call ⟨221, 18, 221, 122⟩ ⟨221, 18, 221, 26⟩ 28 (.cons (.call ⟨221, 27, 221, 73⟩ ⟨221, 27, 221, 31⟩ 21 (.cons (.var ⟨221, 32, 221, 46⟩ 1) (.cons (.ix ⟨221, 48, 221, 59⟩ (.var ⟨221, 48, 221, 56⟩ 3) (.int ⟨221, 57, 221, 58⟩ 0 0)) (.cons (.ix ⟨221, 61, 221, 72⟩ (.var ⟨221, 61, 221, 69⟩ 3) (.int ⟨221, 70, 221, 71⟩ 0 1)) (.nil))))) (.cons (.call ⟨221, 75, 221, 121⟩ ⟨221, 75, 221, 79⟩ 21 (.cons (.var ⟨221, 80, 221, 94⟩ 1) (.cons (.ix ⟨221, 96, 221, 107⟩ (.var ⟨221, 96, 221, 104⟩ 4) (.int ⟨221, 105, 221, 106⟩ 0 0)) (.cons (.ix ⟨221, 109, 221, 120⟩ (.var ⟨221, 109, 221, 117⟩ 4) (.int ⟨221, 118, 221, 119⟩ 0 1)) (.nil))))) (.nil)))) (.cons (.var ⟨221, 124, 221, 133⟩ 10) (.nil)))) (.cons (.ret ⟨222, 8, 222, 20⟩ (.bl ⟨222, 15, 222, 20⟩ 0 false)) (.nil)) (.nil)) (.cons (.set ⟨223, 4, 223, 45⟩ (.nm ⟨223, 4, 223, 14⟩ 11) (.call ⟨223, 17, 223, 45⟩ ⟨223, 17, 223, 27⟩ 36 (.cons (.pk ⟨223, 28, 223, 44⟩ 0) (.nil)))) (.cons (.ifs ⟨224, 4, 225, 20⟩ (.cmp ⟨224, 7, 224, 181⟩ .ne (.bi ⟨224, 7, 224, 103⟩ ⟨224, 7, 224, 11⟩ .repr (.cons (.call ⟨224, 12, 224, 102⟩ ⟨224, 12, 224, 16⟩ 21 (.cons (.var ⟨224, 17, 224, 31⟩ 1) (.cons (.call ⟨224, 33, 224, 66⟩ ⟨224, 33, 224, 41⟩ 30 (.cons (.ix ⟨224, 42, 224, 53⟩ (.var ⟨224, 42, 224, 50⟩ 3) (.int ⟨224, 51, 224, 52⟩ 0 0)) (.cons (.var ⟨224, 55, 224, 65⟩ 11) (.nil)))) (.cons (.call ⟨224, 68, 224, 101⟩ ⟨224, 68, 224, 76⟩ 30 (.cons (.ix ⟨224, 77, 224, 88⟩ (.var ⟨224, 77, 224, 85⟩ 3) (.int ⟨224, 86, 224, 87⟩ 0 1)) (.cons (.var ⟨224, 90, 224, 100⟩ 11) (.nil)))) (.nil))))) (.nil))) (.bi ⟨224, 107, 224, 181⟩ ⟨224, 107, 224, 111⟩ .repr (.cons (.call ⟨224, 112, 224, 180⟩ ⟨224, 112, 224, 120⟩ 30 (.cons (.call ⟨224, 121, 224, 167⟩ ⟨224, 121, 224, 125⟩ 21 (.cons (.var ⟨224, 126, 224, 140⟩ 1) (.cons (.ix ⟨224, 142, 224, 153⟩ (.var ⟨224, 142, 224, 150⟩ 3) (.int ⟨224, 151, 224, 152⟩ 0 0)) (.cons (.ix ⟨224, 155, 224, 166⟩ (.var ⟨224, 155, 224, 163⟩ 3) (.int ⟨224, 164, 224, 165⟩ 0 1)) (.nil))))) (.cons (.var ⟨224, 169, 224, 179⟩ 11) (.nil)))) (.nil)))) (.cons (.ret ⟨225, 8, 225, 20⟩ (.bl ⟨225, 15, 225, 20⟩ 0 false)) (.nil)) (.nil)) (.cons (.par2 ⟨226, 4, 226, 121⟩ ⟨226, 4, 226, 21⟩ ⟨226, 24, 226, 121⟩ 0 0 ⟨226, 4, 226, 12⟩ ⟨226, 14, 226, 21⟩ 12 6 (.call ⟨226, 25, 226, 74⟩ ⟨226, 25, 226, 33⟩ 30 (.cons (.call ⟨226, 34, 226, 65⟩ ⟨226, 34, 226, 47⟩ 35 (.cons (.pk ⟨226, 48, 226, 64⟩ 0) (.nil))) (.cons (.tup ⟨226, 67, 226, 73⟩ 0 (.cons (.int ⟨226, 68, 226, 69⟩ 0 1) (.cons (.int ⟨226, 71, 226, 72⟩ 0 2) (.nil)))) (.nil)))) (.call ⟨226, 76, 226, 120⟩ ⟨226, 76, 226, 85⟩ 27 (.cons (.call ⟨226, 86, 226, 116⟩ ⟨226, 86, 226, 95⟩ 24 (.cons (.pk ⟨226, 96, 226, 112⟩ 0) (.cons (.int ⟨226, 114, 226, 115⟩ 0 7) (.nil)))) (.cons (.int ⟨226, 118, 226, 119⟩ 0 2) (.nil))))) (.cons (.set ⟨227, 4, 227, 105⟩ (.nm ⟨227, 4, 227, 13⟩ 13) (.call ⟨227, 16, 227, 105⟩ ⟨227, 16, 227, 24⟩ 30 (.cons (.call ⟨227, 25, 227, 95⟩ ⟨227, 25, 227, 34⟩ 25 (.cons (.pk ⟨227, 35, 227, 51⟩ 0) (.cons (.lst ⟨227, 53, 227, 94⟩ (.cons (.ix ⟨227, 54, 227, 72⟩ (.var ⟨227, 54, 227, 69⟩ 2) (.int ⟨227, 70, 227, 71⟩ 0 0)) (.cons (.ix ⟨227, 74, 227, 93⟩ (.var ⟨227, 74, 227, 89⟩ 2) (.neg ⟨227, 90, 227, 92⟩ (.int ⟨227, 91, 227, 92⟩ 0 1))) (.nil)))) (.nil)))) (.cons (.var ⟨227, 97, 227, 104⟩ 6) (.nil))))) (.cons (.fors ⟨228, 4, 231, 24⟩ (.nm ⟨228, 8, 228, 15⟩ 5) (.seq (.lst ⟨228, 19, 228, 117⟩ (.cons (.var ⟨228, 20, 228, 28⟩ 12) (.cons (.var ⟨228, 30, 228, 39⟩ 13) (.cons (.call ⟨228, 41, 228, 116⟩ ⟨228, 41, 228, 49⟩ 28 (.cons (.var ⟨228, 50, 228, 59⟩ 13) (.cons (.call ⟨228, 61, 228, 115⟩ ⟨228, 61, 228, 70⟩ 27 (.cons (.call ⟨228, 71, 228, 110⟩ ⟨228, 71, 228, 80⟩ 25 (.cons (.pk ⟨228, 81, 228, 97⟩ 0) (.cons (.lst ⟨228, 99, 228, 109⟩ (.cons (.int ⟨228, 100, 228, 101⟩ 0 1) (.cons (.bin ⟨228, 103, 228, 108⟩ .sub (.int ⟨228, 103, 228, 104⟩ 0 0) (.int ⟨228, 107, 228, 108⟩ 0 1)) (.nil)))) (.nil)))) (.cons (.int ⟨228, 112, 228, 114⟩ 0 97) (.nil)))) (.nil)))) (.nil)))))) (.cons (.set ⟨229, 8, 229, 133⟩ (.nm ⟨229, 8, 229, 16⟩ 7) (.ite ⟨229, 19, 229, 133⟩ (.call ⟨229, 66, 229, 110⟩ ⟨229, 66, 229, 75⟩ 41 (.cons (.var ⟨229, 76, 229, 91⟩ 2) (.cons (.var ⟨229, 93, 229, 100⟩ 5) (.cons (.var ⟨229, 102, 229, 109⟩ 6) (.nil))))) (.call ⟨229, 19, 229, 62⟩ ⟨229, 19, 229, 28⟩ 40 (.cons (.var ⟨229, 29, 229, 43⟩ 1) (.cons (.var ⟨229, 45, 229, 52⟩ 5) (.cons (.var ⟨229, 54, 229, 61⟩ 6) (.nil))))) (.lst ⟨229, 116, 229, 133⟩ (.cons (.str ⟨229, 117, 229, 126⟩ 0 "no step") (.cons (.bl ⟨229, 128, 229, 132⟩ 0 true) (.nil)))))) (.cons (.ifs ⟨230, 8, 231, 24⟩ (.cmp ⟨230, 11, 230, 78⟩ .ne (.bi ⟨230, 11, 230, 60⟩ ⟨230, 11, 230, 15⟩ .repr (.cons (.call ⟨230, 16, 230, 59⟩ ⟨230, 16, 230, 25⟩ 44 (.cons (.var ⟨230, 26, 230, 40⟩ 1) (.cons (.var ⟨230, 42, 230, 49⟩ 5) (.cons (.var ⟨230, 51, 230, 58⟩ 6) (.nil))))) (.nil))) (.bi ⟨230, 64, 230, 78⟩ ⟨230, 64, 230, 68⟩ .repr (.cons (.var ⟨230, 69, 230, 77⟩ 7) (.nil)))) (.cons (.ret ⟨231, 12, 231, 24⟩ (.bl ⟨231, 19, 231, 24⟩ 0 false)) (.nil)) (.nil)) (.nil)))) (.cons (.ret ⟨232, 4, 232, 15⟩ (.bl ⟨232, 11, 232, 15⟩ 0 true)) (.nil)))))))))))) }
/-- law -/
def F46 : Fn := { name := "law", N := ["_law_script", "_law_turn"], np := 1, io := none, body := .cons (.ret ⟨234, 4, 234, 122⟩ (.bi ⟨234, 11, 234, 122⟩ ⟨234, 11, 234, 14⟩ .all (.cons (.comp ⟨234, 15, 234, 121⟩ [("_law_turn", 1)] { kind := .function, names := [(".0", .local), ("_law_turn", .local), ("_law_right", .globalImplicit), ("_law_spring", .globalImplicit), ("_law_script", .free)], isGenerator := false, isCoroutine := false, more := [] } (.call ⟨234, 16, 234, 63⟩ ⟨234, 16, 234, 26⟩ 45 (.cons (.tmp (.call ⟨234, 27, 234, 62⟩ ⟨234, 27, 234, 38⟩ 23 (.cons (.var ⟨234, 39, 234, 50⟩ 0) (.cons (.var ⟨234, 52, 234, 61⟩ 1) (.nil))))) (.nil))) (.nm ⟨234, 68, 234, 77⟩ 1) (.rng1 ⟨234, 81, 234, 120⟩ ⟨234, 81, 234, 86⟩ (.bi ⟨234, 87, 234, 119⟩ ⟨234, 87, 234, 90⟩ .max2 (.cons (.int ⟨234, 91, 234, 92⟩ 0 3) (.cons (.bi ⟨234, 94, 234, 118⟩ ⟨234, 94, 234, 97⟩ .min2 (.cons (.bi ⟨234, 98, 234, 114⟩ ⟨234, 98, 234, 101⟩ .len (.cons (.var ⟨234, 102, 234, 113⟩ 0) (.nil))) (.cons (.int ⟨234, 116, 234, 117⟩ 0 6) (.nil)))) (.nil))))) (.no)) (.nil)))) (.nil) }
def cs : List (Str × D) := [("LEAST_CORNERS", .int (3)), ("MOST_CORNERS", .int (12)), ("NOUGHT", .tuple [(.int (0)), (.int (1))]), ("ONE", .tuple [(.int (1)), (.int (1))])]
def l : List (Fn × Stmt) := [(F0, top 9), (F1, top 10), (F2, top 11), (F3, top 12), (F4, top 13), (F5, top 14), (F6, top 18), (F7, top 19), (F8, top 20), (F9, top 21), (F10, top 23), (F11, top 24), (F12, top 25), (F13, top 26), (F14, top 27), (F15, top 31), (F16, top 32), (F17, top 33), (F18, top 34), (F19, top 35), (F20, top 36), (F21, top 37), (F22, top 38), (F23, top 40), (F24, top 41), (F25, top 42), (F26, top 43), (F27, top 44), (F28, top 45), (F29, top 46), (F30, top 47), (F31, top 48), (F32, top 49), (F33, top 50), (F34, top 51), (F35, top 52), (F36, top 53), (F37, top 54), (F38, top 55), (F39, top 56), (F40, top 57), (F41, top 58), (F42, top 59), (F43, top 60), (F44, top 61), (F45, top 62), (F46, top 63)]
def wh : Wh := ⟨47, 4, fun f => [1, 2, 1, 1, 2, 2, 2, 2, 2, 2, 1, 1, 2, 1, 1, 2, 1, 1, 1, 1, 3, 3, 2, 2, 2, 2, 2, 2, 2, 2, 2, 2, 2, 2, 3, 1, 1, 1, 2, 1, 3, 3, 2, 2, 3, 1, 1].getD f 0, [(21, 0, ["duration", "distance", "kind"], [2, 1, 0]), (22, 0, ["speed", "kind"], [1, 0])], true, ["RoadError", "NoStep"], ["NoStep"], [("NoStep", "RoadError", true), ("NoStep", "NoStep", true)]⟩
abbrev fs : List Fn := [F0, F1, F2, F3, F4, F5, F6, F7, F8, F9, F10, F11, F12, F13, F14, F15, F16, F17, F18, F19, F20, F21, F22, F23, F24, F25, F26, F27, F28, F29, F30, F31, F32, F33, F34, F35, F36, F37, F38, F39, F40, F41, F42, F43, F44, F45, F46]
theorem d0 : DefOk wh fs cs 0 F0 (top 9) := ⟨rfl, by decide, ⟨rfl, rfl, rfl, by decide +kernel, rfl, by decide +kernel, by decide +kernel⟩, by decide +kernel, by kernel_rfl, fun _ _ _ _ _ _ us hl => match us, hl with | [_], _ => by rfl, fun q hq e => by
  have h : q ∈ wh.kb.filter (fun z => z.1 == 0) := List.mem_filter.mpr ⟨hq, beq_iff_eq.mpr e⟩
  rw [show wh.kb.filter (fun z => z.1 == 0) = ([] : List (Nat × Nat × List Str × List Nat)) from by decide +kernel] at h
  cases h⟩
theorem d1 : DefOk wh fs cs 1 F1 (top 10) := ⟨rfl, by decide, ⟨rfl, rfl, rfl, by decide +kernel, rfl, by decide +kernel, by decide +kernel⟩, by decide +kernel, by kernel_rfl, fun _ _ _ _ _ _ us hl => match us, hl with | [_, _], _ => by rfl, fun q hq e => by
  have h : q ∈ wh.kb.filter (fun z => z.1 == 1) := List.mem_filter.mpr ⟨hq, beq_iff_eq.mpr e⟩
  rw [show wh.kb.filter (fun z => z.1 == 1) = ([] : List (Nat × Nat × List Str × List Nat)) from by decide +kernel] at h
  cases h⟩
theorem d2 : DefOk wh fs cs 2 F2 (top 11) := ⟨rfl, by decide, ⟨rfl, rfl, rfl, by decide +kernel, rfl, by decide +kernel, by decide +kernel⟩, by decide +kernel, by kernel_rfl, fun _ _ _ _ _ _ us hl => match us, hl with | [_], _ => by rfl, fun q hq e => by
  have h : q ∈ wh.kb.filter (fun z => z.1 == 2) := List.mem_filter.mpr ⟨hq, beq_iff_eq.mpr e⟩
  rw [show wh.kb.filter (fun z => z.1 == 2) = ([] : List (Nat × Nat × List Str × List Nat)) from by decide +kernel] at h
  cases h⟩
theorem d3 : DefOk wh fs cs 3 F3 (top 12) := ⟨rfl, by decide, ⟨rfl, rfl, rfl, by decide +kernel, rfl, by decide +kernel, by decide +kernel⟩, by decide +kernel, by kernel_rfl, fun _ _ _ _ _ _ us hl => match us, hl with | [_], _ => by rfl, fun q hq e => by
  have h : q ∈ wh.kb.filter (fun z => z.1 == 3) := List.mem_filter.mpr ⟨hq, beq_iff_eq.mpr e⟩
  rw [show wh.kb.filter (fun z => z.1 == 3) = ([] : List (Nat × Nat × List Str × List Nat)) from by decide +kernel] at h
  cases h⟩
theorem d4 : DefOk wh fs cs 4 F4 (top 13) := ⟨rfl, by decide, ⟨rfl, rfl, rfl, by decide +kernel, rfl, by decide +kernel, by decide +kernel⟩, by decide +kernel, by kernel_rfl, fun _ _ _ _ _ _ us hl => match us, hl with | [_, _], _ => by rfl, fun q hq e => by
  have h : q ∈ wh.kb.filter (fun z => z.1 == 4) := List.mem_filter.mpr ⟨hq, beq_iff_eq.mpr e⟩
  rw [show wh.kb.filter (fun z => z.1 == 4) = ([] : List (Nat × Nat × List Str × List Nat)) from by decide +kernel] at h
  cases h⟩
theorem d5 : DefOk wh fs cs 5 F5 (top 14) := ⟨rfl, by decide, ⟨rfl, rfl, rfl, by decide +kernel, rfl, by decide +kernel, by decide +kernel⟩, by decide +kernel, by kernel_rfl, fun _ _ _ _ _ _ us hl => match us, hl with | [_, _], _ => by rfl, fun q hq e => by
  have h : q ∈ wh.kb.filter (fun z => z.1 == 5) := List.mem_filter.mpr ⟨hq, beq_iff_eq.mpr e⟩
  rw [show wh.kb.filter (fun z => z.1 == 5) = ([] : List (Nat × Nat × List Str × List Nat)) from by decide +kernel] at h
  cases h⟩
theorem d6 : DefOk wh fs cs 6 F6 (top 18) := ⟨rfl, by decide, ⟨rfl, rfl, rfl, by decide +kernel, rfl, by decide +kernel, by decide +kernel⟩, by decide +kernel, by kernel_rfl, fun _ _ _ _ _ _ us hl => match us, hl with | [_, _], _ => by rfl, fun q hq e => by
  have h : q ∈ wh.kb.filter (fun z => z.1 == 6) := List.mem_filter.mpr ⟨hq, beq_iff_eq.mpr e⟩
  rw [show wh.kb.filter (fun z => z.1 == 6) = ([] : List (Nat × Nat × List Str × List Nat)) from by decide +kernel] at h
  cases h⟩
theorem d7 : DefOk wh fs cs 7 F7 (top 19) := ⟨rfl, by decide, ⟨rfl, rfl, rfl, by decide +kernel, rfl, by decide +kernel, by decide +kernel⟩, by decide +kernel, by kernel_rfl, fun _ _ _ _ _ _ us hl => match us, hl with | [_, _], _ => by rfl, fun q hq e => by
  have h : q ∈ wh.kb.filter (fun z => z.1 == 7) := List.mem_filter.mpr ⟨hq, beq_iff_eq.mpr e⟩
  rw [show wh.kb.filter (fun z => z.1 == 7) = ([] : List (Nat × Nat × List Str × List Nat)) from by decide +kernel] at h
  cases h⟩
theorem d8 : DefOk wh fs cs 8 F8 (top 20) := ⟨rfl, by decide, ⟨rfl, rfl, rfl, by decide +kernel, rfl, by decide +kernel, by decide +kernel⟩, by decide +kernel, by kernel_rfl, fun _ _ _ _ _ _ us hl => match us, hl with | [_, _], _ => by rfl, fun q hq e => by
  have h : q ∈ wh.kb.filter (fun z => z.1 == 8) := List.mem_filter.mpr ⟨hq, beq_iff_eq.mpr e⟩
  rw [show wh.kb.filter (fun z => z.1 == 8) = ([] : List (Nat × Nat × List Str × List Nat)) from by decide +kernel] at h
  cases h⟩
theorem d9 : DefOk wh fs cs 9 F9 (top 21) := ⟨rfl, by decide, ⟨rfl, rfl, rfl, by decide +kernel, rfl, by decide +kernel, by decide +kernel⟩, by decide +kernel, by kernel_rfl, fun _ _ _ _ _ _ us hl => match us, hl with | [_, _], _ => by rfl, fun q hq e => by
  have h : q ∈ wh.kb.filter (fun z => z.1 == 9) := List.mem_filter.mpr ⟨hq, beq_iff_eq.mpr e⟩
  rw [show wh.kb.filter (fun z => z.1 == 9) = ([] : List (Nat × Nat × List Str × List Nat)) from by decide +kernel] at h
  cases h⟩
theorem d10 : DefOk wh fs cs 10 F10 (top 23) := ⟨rfl, by decide, ⟨rfl, rfl, rfl, by decide +kernel, rfl, by decide +kernel, by decide +kernel⟩, by decide +kernel, by kernel_rfl, fun _ _ _ _ _ _ us hl => match us, hl with | [_], _ => by rfl, fun q hq e => by
  have h : q ∈ wh.kb.filter (fun z => z.1 == 10) := List.mem_filter.mpr ⟨hq, beq_iff_eq.mpr e⟩
  rw [show wh.kb.filter (fun z => z.1 == 10) = ([] : List (Nat × Nat × List Str × List Nat)) from by decide +kernel] at h
  cases h⟩
theorem d11 : DefOk wh fs cs 11 F11 (top 24) := ⟨rfl, by decide, ⟨rfl, rfl, rfl, by decide +kernel, rfl, by decide +kernel, by decide +kernel⟩, by decide +kernel, by kernel_rfl, fun _ _ _ _ _ _ us hl => match us, hl with | [_], _ => by rfl, fun q hq e => by
  have h : q ∈ wh.kb.filter (fun z => z.1 == 11) := List.mem_filter.mpr ⟨hq, beq_iff_eq.mpr e⟩
  rw [show wh.kb.filter (fun z => z.1 == 11) = ([] : List (Nat × Nat × List Str × List Nat)) from by decide +kernel] at h
  cases h⟩
theorem d12 : DefOk wh fs cs 12 F12 (top 25) := ⟨rfl, by decide, ⟨rfl, rfl, rfl, by decide +kernel, rfl, by decide +kernel, by decide +kernel⟩, by decide +kernel, by kernel_rfl, fun _ _ _ _ _ _ us hl => match us, hl with | [_, _], _ => by rfl, fun q hq e => by
  have h : q ∈ wh.kb.filter (fun z => z.1 == 12) := List.mem_filter.mpr ⟨hq, beq_iff_eq.mpr e⟩
  rw [show wh.kb.filter (fun z => z.1 == 12) = ([] : List (Nat × Nat × List Str × List Nat)) from by decide +kernel] at h
  cases h⟩
theorem d13 : DefOk wh fs cs 13 F13 (top 26) := ⟨rfl, by decide, ⟨rfl, rfl, rfl, by decide +kernel, rfl, by decide +kernel, by decide +kernel⟩, by decide +kernel, by kernel_rfl, fun _ _ _ _ _ _ us hl => match us, hl with | [_], _ => by rfl, fun q hq e => by
  have h : q ∈ wh.kb.filter (fun z => z.1 == 13) := List.mem_filter.mpr ⟨hq, beq_iff_eq.mpr e⟩
  rw [show wh.kb.filter (fun z => z.1 == 13) = ([] : List (Nat × Nat × List Str × List Nat)) from by decide +kernel] at h
  cases h⟩
theorem d14 : DefOk wh fs cs 14 F14 (top 27) := ⟨rfl, by decide, ⟨rfl, rfl, rfl, by decide +kernel, rfl, by decide +kernel, by decide +kernel⟩, by decide +kernel, by kernel_rfl, fun _ _ _ _ _ _ us hl => match us, hl with | [_], _ => by rfl, fun q hq e => by
  have h : q ∈ wh.kb.filter (fun z => z.1 == 14) := List.mem_filter.mpr ⟨hq, beq_iff_eq.mpr e⟩
  rw [show wh.kb.filter (fun z => z.1 == 14) = ([] : List (Nat × Nat × List Str × List Nat)) from by decide +kernel] at h
  cases h⟩
theorem d15 : DefOk wh fs cs 15 F15 (top 31) := ⟨rfl, by decide, ⟨rfl, rfl, rfl, by decide +kernel, rfl, by decide +kernel, by decide +kernel⟩, by decide +kernel, by kernel_rfl, fun _ _ _ _ _ _ us hl => match us, hl with | [_, _], _ => by rfl, fun q hq e => by
  have h : q ∈ wh.kb.filter (fun z => z.1 == 15) := List.mem_filter.mpr ⟨hq, beq_iff_eq.mpr e⟩
  rw [show wh.kb.filter (fun z => z.1 == 15) = ([] : List (Nat × Nat × List Str × List Nat)) from by decide +kernel] at h
  cases h⟩
theorem d16 : DefOk wh fs cs 16 F16 (top 32) := ⟨rfl, by decide, ⟨rfl, rfl, rfl, by decide +kernel, rfl, by decide +kernel, by decide +kernel⟩, by decide +kernel, by kernel_rfl, fun _ _ _ _ _ _ us hl => match us, hl with | [_], _ => by rfl, fun q hq e => by
  have h : q ∈ wh.kb.filter (fun z => z.1 == 16) := List.mem_filter.mpr ⟨hq, beq_iff_eq.mpr e⟩
  rw [show wh.kb.filter (fun z => z.1 == 16) = ([] : List (Nat × Nat × List Str × List Nat)) from by decide +kernel] at h
  cases h⟩
theorem d17 : DefOk wh fs cs 17 F17 (top 33) := ⟨rfl, by decide, ⟨rfl, rfl, rfl, by decide +kernel, rfl, by decide +kernel, by decide +kernel⟩, by decide +kernel, by kernel_rfl, fun _ _ _ _ _ _ us hl => match us, hl with | [_], _ => by rfl, fun q hq e => by
  have h : q ∈ wh.kb.filter (fun z => z.1 == 17) := List.mem_filter.mpr ⟨hq, beq_iff_eq.mpr e⟩
  rw [show wh.kb.filter (fun z => z.1 == 17) = ([] : List (Nat × Nat × List Str × List Nat)) from by decide +kernel] at h
  cases h⟩
theorem d18 : DefOk wh fs cs 18 F18 (top 34) := ⟨rfl, by decide, ⟨rfl, rfl, rfl, by decide +kernel, rfl, by decide +kernel, by decide +kernel⟩, by decide +kernel, by kernel_rfl, fun _ _ _ _ _ _ us hl => match us, hl with | [_], _ => by rfl, fun q hq e => by
  have h : q ∈ wh.kb.filter (fun z => z.1 == 18) := List.mem_filter.mpr ⟨hq, beq_iff_eq.mpr e⟩
  rw [show wh.kb.filter (fun z => z.1 == 18) = ([] : List (Nat × Nat × List Str × List Nat)) from by decide +kernel] at h
  cases h⟩
theorem d19 : DefOk wh fs cs 19 F19 (top 35) := ⟨rfl, by decide, ⟨rfl, rfl, rfl, by decide +kernel, rfl, by decide +kernel, by decide +kernel⟩, by decide +kernel, by kernel_rfl, fun _ _ _ _ _ _ us hl => match us, hl with | [_], _ => by rfl, fun q hq e => by
  have h : q ∈ wh.kb.filter (fun z => z.1 == 19) := List.mem_filter.mpr ⟨hq, beq_iff_eq.mpr e⟩
  rw [show wh.kb.filter (fun z => z.1 == 19) = ([] : List (Nat × Nat × List Str × List Nat)) from by decide +kernel] at h
  cases h⟩
theorem d20 : DefOk wh fs cs 20 F20 (top 36) := ⟨rfl, by decide, ⟨rfl, rfl, rfl, by decide +kernel, rfl, by decide +kernel, by decide +kernel⟩, by decide +kernel, by kernel_rfl, fun _ _ _ _ _ _ us hl => match us, hl with | [_, _, _], _ => by rfl, fun q hq e => by
  have h : q ∈ wh.kb.filter (fun z => z.1 == 20) := List.mem_filter.mpr ⟨hq, beq_iff_eq.mpr e⟩
  rw [show wh.kb.filter (fun z => z.1 == 20) = ([] : List (Nat × Nat × List Str × List Nat)) from by decide +kernel] at h
  cases h⟩
theorem d21 : DefOk wh fs cs 21 F21 (top 37) := ⟨rfl, by decide, ⟨rfl, rfl, rfl, by decide +kernel, rfl, by decide +kernel, by decide +kernel⟩, by decide +kernel, by kernel_rfl, fun _ _ _ _ _ _ us hl => match us, hl with | [_, _, _], _ => by rfl, fun q hq e => by
  have h : q ∈ wh.kb.filter (fun z => z.1 == 21) := List.mem_filter.mpr ⟨hq, beq_iff_eq.mpr e⟩
  rw [show wh.kb.filter (fun z => z.1 == 21) = ([(21, 0, ["duration", "distance", "kind"], [2, 1, 0])] : List (Nat × Nat × List Str × List Nat)) from by decide +kernel] at h
  simp only [List.mem_cons, List.not_mem_nil, or_false] at h
  rcases h with rfl
  · exact ⟨by decide, fun _ _ _ _ _ _ us ws h1 h2 => match us, ws, h1, h2 with | [], [_, _, _], _, _ => by rfl⟩
⟩
theorem d22 : DefOk wh fs cs 22 F22 (top 38) := ⟨rfl, by decide, ⟨rfl, rfl, rfl, by decide +kernel, rfl, by decide +kernel, by decide +kernel⟩, by decide +kernel, by kernel_rfl, fun _ _ _ _ _ _ us hl => match us, hl with | [_, _], _ => by rfl, fun q hq e => by
  have h : q ∈ wh.kb.filter (fun z => z.1 == 22) := List.mem_filter.mpr ⟨hq, beq_iff_eq.mpr e⟩
  rw [show wh.kb.filter (fun z => z.1 == 22) = ([(22, 0, ["speed", "kind"], [1, 0])] : List (Nat × Nat × List Str × List Nat)) from by decide +kernel] at h
  simp only [List.mem_cons, List.not_mem_nil, or_false] at h
  rcases h with rfl
  · exact ⟨by decide, fun _ _ _ _ _ _ us ws h1 h2 => match us, ws, h1, h2 with | [], [_, _], _, _ => by rfl⟩
⟩
theorem d23 : DefOk wh fs cs 23 F23 (top 40) := ⟨rfl, by decide, ⟨rfl, rfl, rfl, by decide +kernel, rfl, by decide +kernel, by decide +kernel⟩, by decide +kernel, by kernel_rfl, fun _ _ _ _ _ _ us hl => match us, hl with | [_, _], _ => by rfl, fun q hq e => by
  have h : q ∈ wh.kb.filter (fun z => z.1 == 23) := List.mem_filter.mpr ⟨hq, beq_iff_eq.mpr e⟩
  rw [show wh.kb.filter (fun z => z.1 == 23) = ([] : List (Nat × Nat × List Str × List Nat)) from by decide +kernel] at h
  cases h⟩
theorem d24 : DefOk wh fs cs 24 F24 (top 41) := ⟨rfl, by decide, ⟨rfl, rfl, rfl, by decide +kernel, rfl, by decide +kernel, by decide +kernel⟩, by decide +kernel, by kernel_rfl, fun _ _ _ _ _ _ us hl => match us, hl with | [_, _], _ => by rfl, fun q hq e => by
  have h : q ∈ wh.kb.filter (fun z => z.1 == 24) := List.mem_filter.mpr ⟨hq, beq_iff_eq.mpr e⟩
  rw [show wh.kb.filter (fun z => z.1 == 24) = ([] : List (Nat × Nat × List Str × List Nat)) from by decide +kernel] at h
  cases h⟩
theorem d25 : DefOk wh fs cs 25 F25 (top 42) := ⟨rfl, by decide, ⟨rfl, rfl, rfl, by decide +kernel, rfl, by decide +kernel, by decide +kernel⟩, by decide +kernel, by kernel_rfl, fun _ _ _ _ _ _ us hl => match us, hl with | [_, _], _ => by rfl, fun q hq e => by
  have h : q ∈ wh.kb.filter (fun z => z.1 == 25) := List.mem_filter.mpr ⟨hq, beq_iff_eq.mpr e⟩
  rw [show wh.kb.filter (fun z => z.1 == 25) = ([] : List (Nat × Nat × List Str × List Nat)) from by decide +kernel] at h
  cases h⟩
theorem d26 : DefOk wh fs cs 26 F26 (top 43) := ⟨rfl, by decide, ⟨rfl, rfl, rfl, by decide +kernel, rfl, by decide +kernel, by decide +kernel⟩, by decide +kernel, by kernel_rfl, fun _ _ _ _ _ _ us hl => match us, hl with | [_, _], _ => by rfl, fun q hq e => by
  have h : q ∈ wh.kb.filter (fun z => z.1 == 26) := List.mem_filter.mpr ⟨hq, beq_iff_eq.mpr e⟩
  rw [show wh.kb.filter (fun z => z.1 == 26) = ([] : List (Nat × Nat × List Str × List Nat)) from by decide +kernel] at h
  cases h⟩
theorem d27 : DefOk wh fs cs 27 F27 (top 44) := ⟨rfl, by decide, ⟨rfl, rfl, rfl, by decide +kernel, rfl, by decide +kernel, by decide +kernel⟩, by decide +kernel, by kernel_rfl, fun _ _ _ _ _ _ us hl => match us, hl with | [_, _], _ => by rfl, fun q hq e => by
  have h : q ∈ wh.kb.filter (fun z => z.1 == 27) := List.mem_filter.mpr ⟨hq, beq_iff_eq.mpr e⟩
  rw [show wh.kb.filter (fun z => z.1 == 27) = ([] : List (Nat × Nat × List Str × List Nat)) from by decide +kernel] at h
  cases h⟩
theorem d28 : DefOk wh fs cs 28 F28 (top 45) := ⟨rfl, by decide, ⟨rfl, rfl, rfl, by decide +kernel, rfl, by decide +kernel, by decide +kernel⟩, by decide +kernel, by kernel_rfl, fun _ _ _ _ _ _ us hl => match us, hl with | [_, _], _ => by rfl, fun q hq e => by
  have h : q ∈ wh.kb.filter (fun z => z.1 == 28) := List.mem_filter.mpr ⟨hq, beq_iff_eq.mpr e⟩
  rw [show wh.kb.filter (fun z => z.1 == 28) = ([] : List (Nat × Nat × List Str × List Nat)) from by decide +kernel] at h
  cases h⟩
theorem d29 : DefOk wh fs cs 29 F29 (top 46) := ⟨rfl, by decide, ⟨rfl, rfl, rfl, by decide +kernel, rfl, by decide +kernel, by decide +kernel⟩, by decide +kernel, by kernel_rfl, fun _ _ _ _ _ _ us hl => match us, hl with | [_, _], _ => by rfl, fun q hq e => by
  have h : q ∈ wh.kb.filter (fun z => z.1 == 29) := List.mem_filter.mpr ⟨hq, beq_iff_eq.mpr e⟩
  rw [show wh.kb.filter (fun z => z.1 == 29) = ([] : List (Nat × Nat × List Str × List Nat)) from by decide +kernel] at h
  cases h⟩
theorem d30 : DefOk wh fs cs 30 F30 (top 47) := ⟨rfl, by decide, ⟨rfl, rfl, rfl, by decide +kernel, rfl, by decide +kernel, by decide +kernel⟩, by decide +kernel, by kernel_rfl, fun _ _ _ _ _ _ us hl => match us, hl with | [_, _], _ => by rfl, fun q hq e => by
  have h : q ∈ wh.kb.filter (fun z => z.1 == 30) := List.mem_filter.mpr ⟨hq, beq_iff_eq.mpr e⟩
  rw [show wh.kb.filter (fun z => z.1 == 30) = ([] : List (Nat × Nat × List Str × List Nat)) from by decide +kernel] at h
  cases h⟩
theorem d31 : DefOk wh fs cs 31 F31 (top 48) := ⟨rfl, by decide, ⟨rfl, rfl, rfl, by decide +kernel, rfl, by decide +kernel, by decide +kernel⟩, by decide +kernel, by kernel_rfl, fun _ _ _ _ _ _ us hl => match us, hl with | [_, _], _ => by rfl, fun q hq e => by
  have h : q ∈ wh.kb.filter (fun z => z.1 == 31) := List.mem_filter.mpr ⟨hq, beq_iff_eq.mpr e⟩
  rw [show wh.kb.filter (fun z => z.1 == 31) = ([] : List (Nat × Nat × List Str × List Nat)) from by decide +kernel] at h
  cases h⟩
theorem d32 : DefOk wh fs cs 32 F32 (top 49) := ⟨rfl, by decide, ⟨rfl, rfl, rfl, by decide +kernel, rfl, by decide +kernel, by decide +kernel⟩, by decide +kernel, by kernel_rfl, fun _ _ _ _ _ _ us hl => match us, hl with | [_, _], _ => by rfl, fun q hq e => by
  have h : q ∈ wh.kb.filter (fun z => z.1 == 32) := List.mem_filter.mpr ⟨hq, beq_iff_eq.mpr e⟩
  rw [show wh.kb.filter (fun z => z.1 == 32) = ([] : List (Nat × Nat × List Str × List Nat)) from by decide +kernel] at h
  cases h⟩
theorem d33 : DefOk wh fs cs 33 F33 (top 50) := ⟨rfl, by decide, ⟨rfl, rfl, rfl, by decide +kernel, rfl, by decide +kernel, by decide +kernel⟩, by decide +kernel, by kernel_rfl, fun _ _ _ _ _ _ us hl => match us, hl with | [_, _], _ => by rfl, fun q hq e => by
  have h : q ∈ wh.kb.filter (fun z => z.1 == 33) := List.mem_filter.mpr ⟨hq, beq_iff_eq.mpr e⟩
  rw [show wh.kb.filter (fun z => z.1 == 33) = ([] : List (Nat × Nat × List Str × List Nat)) from by decide +kernel] at h
  cases h⟩
theorem d34 : DefOk wh fs cs 34 F34 (top 51) := ⟨rfl, by decide, ⟨rfl, rfl, rfl, by decide +kernel, rfl, by decide +kernel, by decide +kernel⟩, by decide +kernel, by kernel_rfl, fun _ _ _ _ _ _ us hl => match us, hl with | [_, _, _], _ => by rfl, fun q hq e => by
  have h : q ∈ wh.kb.filter (fun z => z.1 == 34) := List.mem_filter.mpr ⟨hq, beq_iff_eq.mpr e⟩
  rw [show wh.kb.filter (fun z => z.1 == 34) = ([] : List (Nat × Nat × List Str × List Nat)) from by decide +kernel] at h
  cases h⟩
theorem d35 : DefOk wh fs cs 35 F35 (top 52) := ⟨rfl, by decide, ⟨rfl, rfl, rfl, by decide +kernel, rfl, by decide +kernel, by decide +kernel⟩, by decide +kernel, by kernel_rfl, fun _ _ _ _ _ _ us hl => match us, hl with | [_], _ => by rfl, fun q hq e => by
  have h : q ∈ wh.kb.filter (fun z => z.1 == 35) := List.mem_filter.mpr ⟨hq, beq_iff_eq.mpr e⟩
  rw [show wh.kb.filter (fun z => z.1 == 35) = ([] : List (Nat × Nat × List Str × List Nat)) from by decide +kernel] at h
  cases h⟩
theorem d36 : DefOk wh fs cs 36 F36 (top 53) := ⟨rfl, by decide, ⟨rfl, rfl, rfl, by decide +kernel, rfl, by decide +kernel, by decide +kernel⟩, by decide +kernel, by kernel_rfl, fun _ _ _ _ _ _ us hl => match us, hl with | [_], _ => by rfl, fun q hq e => by
  have h : q ∈ wh.kb.filter (fun z => z.1 == 36) := List.mem_filter.mpr ⟨hq, beq_iff_eq.mpr e⟩
  rw [show wh.kb.filter (fun z => z.1 == 36) = ([] : List (Nat × Nat × List Str × List Nat)) from by decide +kernel] at h
  cases h⟩
theorem d37 : DefOk wh fs cs 37 F37 (top 54) := ⟨rfl, by decide, ⟨rfl, rfl, rfl, by decide +kernel, rfl, by decide +kernel, by decide +kernel⟩, by decide +kernel, by kernel_rfl, fun _ _ _ _ _ _ us hl => match us, hl with | [_], _ => by rfl, fun q hq e => by
  have h : q ∈ wh.kb.filter (fun z => z.1 == 37) := List.mem_filter.mpr ⟨hq, beq_iff_eq.mpr e⟩
  rw [show wh.kb.filter (fun z => z.1 == 37) = ([] : List (Nat × Nat × List Str × List Nat)) from by decide +kernel] at h
  cases h⟩
theorem d38 : DefOk wh fs cs 38 F38 (top 55) := ⟨rfl, by decide, ⟨rfl, rfl, rfl, by decide +kernel, rfl, by decide +kernel, by decide +kernel⟩, by decide +kernel, by kernel_rfl, fun _ _ _ _ _ _ us hl => match us, hl with | [_, _], _ => by rfl, fun q hq e => by
  have h : q ∈ wh.kb.filter (fun z => z.1 == 38) := List.mem_filter.mpr ⟨hq, beq_iff_eq.mpr e⟩
  rw [show wh.kb.filter (fun z => z.1 == 38) = ([] : List (Nat × Nat × List Str × List Nat)) from by decide +kernel] at h
  cases h⟩
theorem d39 : DefOk wh fs cs 39 F39 (top 56) := ⟨rfl, by decide, ⟨rfl, rfl, rfl, by decide +kernel, rfl, by decide +kernel, by decide +kernel⟩, by decide +kernel, by kernel_rfl, fun _ _ _ _ _ _ us hl => match us, hl with | [_], _ => by rfl, fun q hq e => by
  have h : q ∈ wh.kb.filter (fun z => z.1 == 39) := List.mem_filter.mpr ⟨hq, beq_iff_eq.mpr e⟩
  rw [show wh.kb.filter (fun z => z.1 == 39) = ([] : List (Nat × Nat × List Str × List Nat)) from by decide +kernel] at h
  cases h⟩
theorem d40 : DefOk wh fs cs 40 F40 (top 57) := ⟨rfl, by decide, ⟨rfl, rfl, rfl, by decide +kernel, rfl, by decide +kernel, by decide +kernel⟩, by decide +kernel, by kernel_rfl, fun _ _ _ _ _ _ us hl => match us, hl with | [_, _, _], _ => by rfl, fun q hq e => by
  have h : q ∈ wh.kb.filter (fun z => z.1 == 40) := List.mem_filter.mpr ⟨hq, beq_iff_eq.mpr e⟩
  rw [show wh.kb.filter (fun z => z.1 == 40) = ([] : List (Nat × Nat × List Str × List Nat)) from by decide +kernel] at h
  cases h⟩
theorem d41 : DefOk wh fs cs 41 F41 (top 58) := ⟨rfl, by decide, ⟨rfl, rfl, rfl, by decide +kernel, rfl, by decide +kernel, by decide +kernel⟩, by decide +kernel, by kernel_rfl, fun _ _ _ _ _ _ us hl => match us, hl with | [_, _, _], _ => by rfl, fun q hq e => by
  have h : q ∈ wh.kb.filter (fun z => z.1 == 41) := List.mem_filter.mpr ⟨hq, beq_iff_eq.mpr e⟩
  rw [show wh.kb.filter (fun z => z.1 == 41) = ([] : List (Nat × Nat × List Str × List Nat)) from by decide +kernel] at h
  cases h⟩
theorem d42 : DefOk wh fs cs 42 F42 (top 59) := ⟨rfl, by decide, ⟨rfl, rfl, rfl, by decide +kernel, rfl, by decide +kernel, by decide +kernel⟩, by decide +kernel, by kernel_rfl, fun _ _ _ _ _ _ us hl => match us, hl with | [_, _], _ => by rfl, fun q hq e => by
  have h : q ∈ wh.kb.filter (fun z => z.1 == 42) := List.mem_filter.mpr ⟨hq, beq_iff_eq.mpr e⟩
  rw [show wh.kb.filter (fun z => z.1 == 42) = ([] : List (Nat × Nat × List Str × List Nat)) from by decide +kernel] at h
  cases h⟩
theorem d43 : DefOk wh fs cs 43 F43 (top 60) := ⟨rfl, by decide, ⟨rfl, rfl, rfl, by decide +kernel, rfl, by decide +kernel, by decide +kernel⟩, by decide +kernel, by kernel_rfl, fun _ _ _ _ _ _ us hl => match us, hl with | [_, _], _ => by rfl, fun q hq e => by
  have h : q ∈ wh.kb.filter (fun z => z.1 == 43) := List.mem_filter.mpr ⟨hq, beq_iff_eq.mpr e⟩
  rw [show wh.kb.filter (fun z => z.1 == 43) = ([] : List (Nat × Nat × List Str × List Nat)) from by decide +kernel] at h
  cases h⟩
theorem d44 : DefOk wh fs cs 44 F44 (top 61) := ⟨rfl, by decide, ⟨rfl, rfl, rfl, by decide +kernel, rfl, by decide +kernel, by decide +kernel⟩, by decide +kernel, by kernel_rfl, fun _ _ _ _ _ _ us hl => match us, hl with | [_, _, _], _ => by rfl, fun q hq e => by
  have h : q ∈ wh.kb.filter (fun z => z.1 == 44) := List.mem_filter.mpr ⟨hq, beq_iff_eq.mpr e⟩
  rw [show wh.kb.filter (fun z => z.1 == 44) = ([] : List (Nat × Nat × List Str × List Nat)) from by decide +kernel] at h
  cases h⟩
theorem d45 : DefOk wh fs cs 45 F45 (top 62) := ⟨rfl, by decide, ⟨rfl, rfl, rfl, by decide +kernel, rfl, by decide +kernel, by decide +kernel⟩, by decide +kernel, by kernel_rfl, fun _ _ _ _ _ _ us hl => match us, hl with | [_], _ => by rfl, fun q hq e => by
  have h : q ∈ wh.kb.filter (fun z => z.1 == 45) := List.mem_filter.mpr ⟨hq, beq_iff_eq.mpr e⟩
  rw [show wh.kb.filter (fun z => z.1 == 45) = ([] : List (Nat × Nat × List Str × List Nat)) from by decide +kernel] at h
  cases h⟩
theorem d46 : DefOk wh fs cs 46 F46 (top 63) := ⟨rfl, by decide, ⟨rfl, rfl, rfl, by decide +kernel, rfl, by decide +kernel, by decide +kernel⟩, by decide +kernel, by kernel_rfl, fun _ _ _ _ _ _ us hl => match us, hl with | [_], _ => by rfl, fun q hq e => by
  have h : q ∈ wh.kb.filter (fun z => z.1 == 46) := List.mem_filter.mpr ⟨hq, beq_iff_eq.mpr e⟩
  rw [show wh.kb.filter (fun z => z.1 == 46) = ([] : List (Nat × Nat × List Str × List Nat)) from by decide +kernel] at h
  cases h⟩
theorem dall : DefsOk wh fs cs 0 l := .cons d0 (.cons d1 (.cons d2 (.cons d3 (.cons d4 (.cons d5 (.cons d6 (.cons d7 (.cons d8 (.cons d9 (.cons d10 (.cons d11 (.cons d12 (.cons d13 (.cons d14 (.cons d15 (.cons d16 (.cons d17 (.cons d18 (.cons d19 (.cons d20 (.cons d21 (.cons d22 (.cons d23 (.cons d24 (.cons d25 (.cons d26 (.cons d27 (.cons d28 (.cons d29 (.cons d30 (.cons d31 (.cons d32 (.cons d33 (.cons d34 (.cons d35 (.cons d36 (.cons d37 (.cons d38 (.cons d39 (.cons d40 (.cons d41 (.cons d42 (.cons d43 (.cons d44 (.cons d45 (.cons d46 (.nil 47)))))))))))))))))))))))))))))))))))))))))))))))
def loose : List Str := (["RoadError", "InvalidFraction", "InvalidContent", "InvalidKind", "InvalidSpeed", "NoStep", "is_whole", "are_wholes", "common_part", "lowest", "lowest_over", "ratio", "NOUGHT", "ONE", "minus", "times", "divided", "is_below", "is_fraction", "is_content"] : List Str) ++ (["are_fractions", "check_fraction", "check_content", "LEAST_CORNERS", "MOST_CORNERS", "slope_of", "kind_speeds", "is_kind", "is_corner", "check_kind", "toll_by", "toll", "toll_rate", "_law_spring", "_law_draw", "_law_pick", "_law_shared", "_law_frac", "_law_add", "_law_sub"] : List Str) ++ (["_law_mul", "_law_div", "_law_under", "_law_upto", "_law_part", "_law_fraction", "_law_small", "_law_road", "_law_long_road", "_law_paces", "_law_toll", "_law_lets", "_law_rate", "_law_step", "_law_told", "_law_right"] : List Str)
abbrev R : PySem.W.OpenRow := PySem.W.OpenLaw.row PySem.Challenge.rw_roadwaves_k04_whole_tolls_and_their_sums
abbrev hk : PySem.W.Hook := hookY 4 (faOf l) (l.map mkD) (exB cs wh)
def ob (s : PySem.W.SharedT) : He.AlX × Bool := obsY 4 (faOf l) (l.map mkD) (exB cs wh) (HandSHeadRun.getT s)
theorem ob_eq (s : PySem.W.SharedT) : ob s = hk.obs s.abs := obsY_eq (HandSHeadRun.getT_eq s)
theorem headRun (w : World) : HandSHeadRun.RunEqI R (PySem.W.view R.prog [0, 63]) hk ob 8000 loose w := by
  unfold HandSHeadRun.RunEqI
  kernel_rfl
theorem facts {w : World} {K : PySem.W.Frag} {h : Heap} {mg : Str → Option Value} {f : Addr} (X : K.In h) (G : h.Ns mainGlobals mg) (hfa : mg ("law" : Str) = some (.ref f)) (c : He.SaysX (faOf l) (l.map mkD) [] [] (exB cs wh) w h K) (P : Program) :
    ∃ fd : FuncData, (∀ (s : Shared) (u : Value), BindsTo s fd ⟨[u], []⟩ [("_law_script", u)]) ∧ ∀ base : Heap, SmB base → FnG P w K mg base (L2.CX P w) 100 f fd ["_law_script"] (spD K none 1 (Mp.run fs (cstDL cs) 100 46)) := by
  have T : Txt K mg wh fs cs := txt_of X G c dall rfl rfl
  obtain ⟨fd, Fd⟩ := c.t.d.defs (d := mkD (F46, top 63)) (List.mem_map_of_mem (by simp [l]))
  have Fd : FunD K F46.name F46.name (defArgs (top 63)) (defBody (top 63)) (defScope (top 63)) [] [] (He.fAd K (F46.name, none)) fd := Fd
  have gl := He.glo_ok X G (c.t.d.facts (f := .glo F46.name) (List.mem_append_left _ (List.mem_map.mpr ⟨(F46, top 63), by simp [l], rfl⟩)))
  have e : Value.ref f = .ref (He.fAd K (F46.name, none)) := Option.some.inj (hfa.symm.trans gl)
  cases e
  refine ⟨fd, fun s u => FunD.bindsA (ps := psOf F46) Fd d46.bd s [u] rfl, fun base hsm => ?_⟩
  have Fd2 : FunD K F46.name F46.name (defArgs (top 63)) (astSs (nmOf fs cs F46) F46.body) (defScope (top 63)) [] [] (He.fAd K (F46.name, none)) fd := by
    rw [d46.ast]
    exact Fd
  exact all_fn T hsm 100 46 F46 rfl _ fd _ _ _ _ _ _ d46.sc d46.ch Fd2 d46.np
theorem holds (HL : LawOk fs cs 46 63 100) : PySem.Challenge.rw_roadwaves_k04_whole_tolls_and_their_sums.Holds := by
  w_on; o_law
  refine HandSHeadRun.head_imp (r := PySem.W.OpenLaw.row PySem.Challenge.rw_roadwaves_k04_whole_tolls_and_their_sums) (q := PySem.W.view (PySem.W.OpenLaw.row PySem.Challenge.rw_roadwaves_k04_whole_tolls_and_their_sums).prog [0, 63]) (H := hk) (ob := ob) (M := 8000) (loose := loose) (d := HandSHeadRun.topDef (PySem.W.OpenLaw.row PySem.Challenge.rw_roadwaves_k04_whole_tolls_and_their_sums).prog 63) (kwd := []) ob_eq
    headRun (by kernel_rfl) (by kernel_rfl) (by kernel_rfl) (by rfl) (by first | assumption | decide +kernel) (by decide +kernel) ⟨rfl, rfl, rfl, rfl, rfl, by decide +kernel⟩ ?hw ?hc
  case hw => w_witness2
  case hc =>
    refine walk_mp (l := PySem.Challenge.rw_roadwaves_k04_whole_tolls_and_their_sums) (n := 63) (k := 100) (x := "_law_script") rfl (by decide) (by kernel_rfl) ⟨rfl, by decide, by decide⟩ ?F
    intro w mg fa h Y G hmg0
    obtain ⟨⟨K, KX, c⟩, hsm⟩ := Y
    have hmg : mg ("law" : PySem.Str) = some (.ref fa) := by
      have e : (HandSHeadRun.topDef (PySem.W.OpenLaw.row PySem.Challenge.rw_roadwaves_k04_whole_tolls_and_their_sums).prog 63).name = ("law" : PySem.Str) := by kernel_rfl
      rw [← e]
      exact hmg0
    obtain ⟨fd, hb, hF⟩ := facts KX G hmg c PySem.Challenge.rw_roadwaves_k04_whole_tolls_and_their_sums.prog
    exact ⟨K, fd, _, KX, hsm, hb, fun H a ns hl hS => law_sp HL hl hS, hF⟩
end K04

end

section
namespace K04
open PySem PySem.Spec PyProof.Rows L2 Mp
noncomputable def Φ (n : Nat) (f : Nat) (ds : List D) : Out := Mp.run fs (cstDL cs) n f ds
noncomputable def Sx (io : Option Nat) (n : Nat) : Sc := fnSc fs (cstDL cs) io (Φ n)
theorem at_ {n f : Nat} {F : Fn} {ds : List D} (h : fs[f]? = some F) (hl : ds.length = F.np) (hi : ioIn F.io ds = true) : Φ (n + 1) f ds = outD F.io (evSs (Sx F.io n) F.body (startE F.N.length F.io ds)) := run_at h hl hi
@[simp] theorem sx_io (io : Option Nat) (n : Nat) : (Sx io n).io = io := rfl
@[simp] theorem sx_phi (io : Option Nat) (n : Nat) : (Sx io n).Φ = Φ n := rfl
@[simp] theorem sx_c0 (io : Option Nat) (n : Nat) : (Sx io n).cst 0 = .int (3) := rfl
@[simp] theorem sx_c1 (io : Option Nat) (n : Nat) : (Sx io n).cst 1 = .int (12) := rfl
@[simp] theorem sx_c2 (io : Option Nat) (n : Nat) : (Sx io n).cst 2 = .tuple [(.int (0)), (.int (1))] := rfl
@[simp] theorem sx_c3 (io : Option Nat) (n : Nat) : (Sx io n).cst 3 = .tuple [(.int (1)), (.int (1))] := rfl
theorem si_0 (io : Option Nat) (n : Nat) : (Sx io n).sio 0 = none := rfl
@[simp] theorem cl_0 (io : Option Nat) (n : Nat) (avs : List Av) (σ : En) : callD (Sx io n) 0 avs σ = (Res.gt (plainAll avs)).bd fun ds => ret1 (Φ n 0 ds) σ := call_0 σ (si_0 io n) avs
theorem si_1 (io : Option Nat) (n : Nat) : (Sx io n).sio 1 = none := rfl
@[simp] theorem cl_1 (io : Option Nat) (n : Nat) (avs : List Av) (σ : En) : callD (Sx io n) 1 avs σ = (Res.gt (plainAll avs)).bd fun ds => ret1 (Φ n 1 ds) σ := call_0 σ (si_1 io n) avs
theorem si_2 (io : Option Nat) (n : Nat) : (Sx io n).sio 2 = none := rfl
@[simp] theorem cl_2 (io : Option Nat) (n : Nat) (avs : List Av) (σ : En) : callD (Sx io n) 2 avs σ = (Res.gt (plainAll avs)).bd fun ds => ret1 (Φ n 2 ds) σ := call_0 σ (si_2 io n) avs
theorem si_3 (io : Option Nat) (n : Nat) : (Sx io n).sio 3 = none := rfl
@[simp] theorem cl_3 (io : Option Nat) (n : Nat) (avs : List Av) (σ : En) : callD (Sx io n) 3 avs σ = (Res.gt (plainAll avs)).bd fun ds => ret1 (Φ n 3 ds) σ := call_0 σ (si_3 io n) avs
theorem si_4 (io : Option Nat) (n : Nat) : (Sx io n).sio 4 = none := rfl
@[simp] theorem cl_4 (io : Option Nat) (n : Nat) (avs : List Av) (σ : En) : callD (Sx io n) 4 avs σ = (Res.gt (plainAll avs)).bd fun ds => ret1 (Φ n 4 ds) σ := call_0 σ (si_4 io n) avs
theorem si_5 (io : Option Nat) (n : Nat) : (Sx io n).sio 5 = none := rfl
@[simp] theorem cl_5 (io : Option Nat) (n : Nat) (avs : List Av) (σ : En) : callD (Sx io n) 5 avs σ = (Res.gt (plainAll avs)).bd fun ds => ret1 (Φ n 5 ds) σ := call_0 σ (si_5 io n) avs
theorem si_6 (io : Option Nat) (n : Nat) : (Sx io n).sio 6 = none := rfl
@[simp] theorem cl_6 (io : Option Nat) (n : Nat) (avs : List Av) (σ : En) : callD (Sx io n) 6 avs σ = (Res.gt (plainAll avs)).bd fun ds => ret1 (Φ n 6 ds) σ := call_0 σ (si_6 io n) avs
theorem si_7 (io : Option Nat) (n : Nat) : (Sx io n).sio 7 = none := rfl
@[simp] theorem cl_7 (io : Option Nat) (n : Nat) (avs : List Av) (σ : En) : callD (Sx io n) 7 avs σ = (Res.gt (plainAll avs)).bd fun ds => ret1 (Φ n 7 ds) σ := call_0 σ (si_7 io n) avs
theorem si_8 (io : Option Nat) (n : Nat) : (Sx io n).sio 8 = none := rfl
@[simp] theorem cl_8 (io : Option Nat) (n : Nat) (avs : List Av) (σ : En) : callD (Sx io n) 8 avs σ = (Res.gt (plainAll avs)).bd fun ds => ret1 (Φ n 8 ds) σ := call_0 σ (si_8 io n) avs
theorem si_9 (io : Option Nat) (n : Nat) : (Sx io n).sio 9 = none := rfl
@[simp] theorem cl_9 (io : Option Nat) (n : Nat) (avs : List Av) (σ : En) : callD (Sx io n) 9 avs σ = (Res.gt (plainAll avs)).bd fun ds => ret1 (Φ n 9 ds) σ := call_0 σ (si_9 io n) avs
theorem si_10 (io : Option Nat) (n : Nat) : (Sx io n).sio 10 = none := rfl
@[simp] theorem cl_10 (io : Option Nat) (n : Nat) (avs : List Av) (σ : En) : callD (Sx io n) 10 avs σ = (Res.gt (plainAll avs)).bd fun ds => ret1 (Φ n 10 ds) σ := call_0 σ (si_10 io n) avs
theorem si_11 (io : Option Nat) (n : Nat) : (Sx io n).sio 11 = none := rfl
@[simp] theorem cl_11 (io : Option Nat) (n : Nat) (avs : List Av) (σ : En) : callD (Sx io n) 11 avs σ = (Res.gt (plainAll avs)).bd fun ds => ret1 (Φ n 11 ds) σ := call_0 σ (si_11 io n) avs
theorem si_12 (io : Option Nat) (n : Nat) : (Sx io n).sio 12 = none := rfl
@[simp] theorem cl_12 (io : Option Nat) (n : Nat) (avs : List Av) (σ : En) : callD (Sx io n) 12 avs σ = (Res.gt (plainAll avs)).bd fun ds => ret1 (Φ n 12 ds) σ := call_0 σ (si_12 io n) avs
theorem si_13 (io : Option Nat) (n : Nat) : (Sx io n).sio 13 = none := rfl
@[simp] theorem cl_13 (io : Option Nat) (n : Nat) (avs : List Av) (σ : En) : callD (Sx io n) 13 avs σ = (Res.gt (plainAll avs)).bd fun ds => ret1 (Φ n 13 ds) σ := call_0 σ (si_13 io n) avs
theorem si_14 (io : Option Nat) (n : Nat) : (Sx io n).sio 14 = none := rfl
@[simp] theorem cl_14 (io : Option Nat) (n : Nat) (avs : List Av) (σ : En) : callD (Sx io n) 14 avs σ = (Res.gt (plainAll avs)).bd fun ds => ret1 (Φ n 14 ds) σ := call_0 σ (si_14 io n) avs
theorem si_15 (io : Option Nat) (n : Nat) : (Sx io n).sio 15 = none := rfl
@[simp] theorem cl_15 (io : Option Nat) (n : Nat) (avs : List Av) (σ : En) : callD (Sx io n) 15 avs σ = (Res.gt (plainAll avs)).bd fun ds => ret1 (Φ n 15 ds) σ := call_0 σ (si_15 io n) avs
theorem si_16 (io : Option Nat) (n : Nat) : (Sx io n).sio 16 = none := rfl
@[simp] theorem cl_16 (io : Option Nat) (n : Nat) (avs : List Av) (σ : En) : callD (Sx io n) 16 avs σ = (Res.gt (plainAll avs)).bd fun ds => ret1 (Φ n 16 ds) σ := call_0 σ (si_16 io n) avs
theorem si_17 (io : Option Nat) (n : Nat) : (Sx io n).sio 17 = none := rfl
@[simp] theorem cl_17 (io : Option Nat) (n : Nat) (avs : List Av) (σ : En) : callD (Sx io n) 17 avs σ = (Res.gt (plainAll avs)).bd fun ds => ret1 (Φ n 17 ds) σ := call_0 σ (si_17 io n) avs
theorem si_18 (io : Option Nat) (n : Nat) : (Sx io n).sio 18 = none := rfl
@[simp] theorem cl_18 (io : Option Nat) (n : Nat) (avs : List Av) (σ : En) : callD (Sx io n) 18 avs σ = (Res.gt (plainAll avs)).bd fun ds => ret1 (Φ n 18 ds) σ := call_0 σ (si_18 io n) avs
theorem si_19 (io : Option Nat) (n : Nat) : (Sx io n).sio 19 = none := rfl
@[simp] theorem cl_19 (io : Option Nat) (n : Nat) (avs : List Av) (σ : En) : callD (Sx io n) 19 avs σ = (Res.gt (plainAll avs)).bd fun ds => ret1 (Φ n 19 ds) σ := call_0 σ (si_19 io n) avs
theorem si_20 (io : Option Nat) (n : Nat) : (Sx io n).sio 20 = none := rfl
@[simp] theorem cl_20 (io : Option Nat) (n : Nat) (avs : List Av) (σ : En) : callD (Sx io n) 20 avs σ = (Res.gt (plainAll avs)).bd fun ds => ret1 (Φ n 20 ds) σ := call_0 σ (si_20 io n) avs
theorem si_21 (io : Option Nat) (n : Nat) : (Sx io n).sio 21 = none := rfl
@[simp] theorem cl_21 (io : Option Nat) (n : Nat) (avs : List Av) (σ : En) : callD (Sx io n) 21 avs σ = (Res.gt (plainAll avs)).bd fun ds => ret1 (Φ n 21 ds) σ := call_0 σ (si_21 io n) avs
theorem si_22 (io : Option Nat) (n : Nat) : (Sx io n).sio 22 = none := rfl
@[simp] theorem cl_22 (io : Option Nat) (n : Nat) (avs : List Av) (σ : En) : callD (Sx io n) 22 avs σ = (Res.gt (plainAll avs)).bd fun ds => ret1 (Φ n 22 ds) σ := call_0 σ (si_22 io n) avs
theorem si_23 (io : Option Nat) (n : Nat) : (Sx io n).sio 23 = none := rfl
@[simp] theorem cl_23 (io : Option Nat) (n : Nat) (avs : List Av) (σ : En) : callD (Sx io n) 23 avs σ = (Res.gt (plainAll avs)).bd fun ds => ret1 (Φ n 23 ds) σ := call_0 σ (si_23 io n) avs
theorem si_24 (io : Option Nat) (n : Nat) : (Sx io n).sio 24 = some 0 := rfl
@[simp] theorem cp_24 (io : Option Nat) (n i : Nat) (avs : List Av) (x : Sv) (r : En) : callD (Sx io n) 24 (.pk i :: avs) (x :: r) = ioR (Φ n 24) ((x :: r)[i]?) (plainAll avs) i (x :: r) := call_ioR (si_24 io n) avs
@[simp] theorem cw_24 (io : Option Nat) (n : Nat) (ds : List D) (avs : List Av) (σ : En) : callD (Sx io n) 24 (.own ds :: avs) σ = (Res.gt (plainAll avs)).bd fun bs => ret1 (Φ n 24 (.list ds :: bs)) σ := call_ownR (si_24 io n) avs
theorem si_25 (io : Option Nat) (n : Nat) : (Sx io n).sio 25 = some 0 := rfl
@[simp] theorem cp_25 (io : Option Nat) (n i : Nat) (avs : List Av) (x : Sv) (r : En) : callD (Sx io n) 25 (.pk i :: avs) (x :: r) = ioR (Φ n 25) ((x :: r)[i]?) (plainAll avs) i (x :: r) := call_ioR (si_25 io n) avs
@[simp] theorem cw_25 (io : Option Nat) (n : Nat) (ds : List D) (avs : List Av) (σ : En) : callD (Sx io n) 25 (.own ds :: avs) σ = (Res.gt (plainAll avs)).bd fun bs => ret1 (Φ n 25 (.list ds :: bs)) σ := call_ownR (si_25 io n) avs
theorem si_26 (io : Option Nat) (n : Nat) : (Sx io n).sio 26 = none := rfl
@[simp] theorem cl_26 (io : Option Nat) (n : Nat) (avs : List Av) (σ : En) : callD (Sx io n) 26 avs σ = (Res.gt (plainAll avs)).bd fun ds => ret1 (Φ n 26 ds) σ := call_0 σ (si_26 io n) avs
theorem si_27 (io : Option Nat) (n : Nat) : (Sx io n).sio 27 = none := rfl
@[simp] theorem cl_27 (io : Option Nat) (n : Nat) (avs : List Av) (σ : En) : callD (Sx io n) 27 avs σ = (Res.gt (plainAll avs)).bd fun ds => ret1 (Φ n 27 ds) σ := call_0 σ (si_27 io n) avs
theorem si_28 (io : Option Nat) (n : Nat) : (Sx io n).sio 28 = none := rfl
@[simp] theorem cl_28 (io : Option Nat) (n : Nat) (avs : List Av) (σ : En) : callD (Sx io n) 28 avs σ = (Res.gt (plainAll avs)).bd fun ds => ret1 (Φ n 28 ds) σ := call_0 σ (si_28 io n) avs
theorem si_29 (io : Option Nat) (n : Nat) : (Sx io n).sio 29 = none := rfl
@[simp] theorem cl_29 (io : Option Nat) (n : Nat) (avs : List Av) (σ : En) : callD (Sx io n) 29 avs σ = (Res.gt (plainAll avs)).bd fun ds => ret1 (Φ n 29 ds) σ := call_0 σ (si_29 io n) avs
theorem si_30 (io : Option Nat) (n : Nat) : (Sx io n).sio 30 = none := rfl
@[simp] theorem cl_30 (io : Option Nat) (n : Nat) (avs : List Av) (σ : En) : callD (Sx io n) 30 avs σ = (Res.gt (plainAll avs)).bd fun ds => ret1 (Φ n 30 ds) σ := call_0 σ (si_30 io n) avs
theorem si_31 (io : Option Nat) (n : Nat) : (Sx io n).sio 31 = none := rfl
@[simp] theorem cl_31 (io : Option Nat) (n : Nat) (avs : List Av) (σ : En) : callD (Sx io n) 31 avs σ = (Res.gt (plainAll avs)).bd fun ds => ret1 (Φ n 31 ds) σ := call_0 σ (si_31 io n) avs
theorem si_32 (io : Option Nat) (n : Nat) : (Sx io n).sio 32 = none := rfl
@[simp] theorem cl_32 (io : Option Nat) (n : Nat) (avs : List Av) (σ : En) : callD (Sx io n) 32 avs σ = (Res.gt (plainAll avs)).bd fun ds => ret1 (Φ n 32 ds) σ := call_0 σ (si_32 io n) avs
theorem si_33 (io : Option Nat) (n : Nat) : (Sx io n).sio 33 = none := rfl
@[simp] theorem cl_33 (io : Option Nat) (n : Nat) (avs : List Av) (σ : En) : callD (Sx io n) 33 avs σ = (Res.gt (plainAll avs)).bd fun ds => ret1 (Φ n 33 ds) σ := call_0 σ (si_33 io n) avs
theorem si_34 (io : Option Nat) (n : Nat) : (Sx io n).sio 34 = none := rfl
@[simp] theorem cl_34 (io : Option Nat) (n : Nat) (avs : List Av) (σ : En) : callD (Sx io n) 34 avs σ = (Res.gt (plainAll avs)).bd fun ds => ret1 (Φ n 34 ds) σ := call_0 σ (si_34 io n) avs
theorem si_35 (io : Option Nat) (n : Nat) : (Sx io n).sio 35 = some 0 := rfl
@[simp] theorem cp_35 (io : Option Nat) (n i : Nat) (avs : List Av) (x : Sv) (r : En) : callD (Sx io n) 35 (.pk i :: avs) (x :: r) = ioR (Φ n 35) ((x :: r)[i]?) (plainAll avs) i (x :: r) := call_ioR (si_35 io n) avs
@[simp] theorem cw_35 (io : Option Nat) (n : Nat) (ds : List D) (avs : List Av) (σ : En) : callD (Sx io n) 35 (.own ds :: avs) σ = (Res.gt (plainAll avs)).bd fun bs => ret1 (Φ n 35 (.list ds :: bs)) σ := call_ownR (si_35 io n) avs
theorem si_36 (io : Option Nat) (n : Nat) : (Sx io n).sio 36 = some 0 := rfl
@[simp] theorem cp_36 (io : Option Nat) (n i : Nat) (avs : List Av) (x : Sv) (r : En) : callD (Sx io n) 36 (.pk i :: avs) (x :: r) = ioR (Φ n 36) ((x :: r)[i]?) (plainAll avs) i (x :: r) := call_ioR (si_36 io n) avs
@[simp] theorem cw_36 (io : Option Nat) (n : Nat) (ds : List D) (avs : List Av) (σ : En) : callD (Sx io n) 36 (.own ds :: avs) σ = (Res.gt (plainAll avs)).bd fun bs => ret1 (Φ n 36 (.list ds :: bs)) σ := call_ownR (si_36 io n) avs
theorem si_37 (io : Option Nat) (n : Nat) : (Sx io n).sio 37 = some 0 := rfl
@[simp] theorem cp_37 (io : Option Nat) (n i : Nat) (avs : List Av) (x : Sv) (r : En) : callD (Sx io n) 37 (.pk i :: avs) (x :: r) = ioR (Φ n 37) ((x :: r)[i]?) (plainAll avs) i (x :: r) := call_ioR (si_37 io n) avs
@[simp] theorem cw_37 (io : Option Nat) (n : Nat) (ds : List D) (avs : List Av) (σ : En) : callD (Sx io n) 37 (.own ds :: avs) σ = (Res.gt (plainAll avs)).bd fun bs => ret1 (Φ n 37 (.list ds :: bs)) σ := call_ownR (si_37 io n) avs
theorem si_38 (io : Option Nat) (n : Nat) : (Sx io n).sio 38 = some 0 := rfl
@[simp] theorem cp_38 (io : Option Nat) (n i : Nat) (avs : List Av) (x : Sv) (r : En) : callD (Sx io n) 38 (.pk i :: avs) (x :: r) = ioR (Φ n 38) ((x :: r)[i]?) (plainAll avs) i (x :: r) := call_ioR (si_38 io n) avs
@[simp] theorem cw_38 (io : Option Nat) (n : Nat) (ds : List D) (avs : List Av) (σ : En) : callD (Sx io n) 38 (.own ds :: avs) σ = (Res.gt (plainAll avs)).bd fun bs => ret1 (Φ n 38 (.list ds :: bs)) σ := call_ownR (si_38 io n) avs
theorem si_39 (io : Option Nat) (n : Nat) : (Sx io n).sio 39 = none := rfl
@[simp] theorem cl_39 (io : Option Nat) (n : Nat) (avs : List Av) (σ : En) : callD (Sx io n) 39 avs σ = (Res.gt (plainAll avs)).bd fun ds => ret1 (Φ n 39 ds) σ := call_0 σ (si_39 io n) avs
theorem si_40 (io : Option Nat) (n : Nat) : (Sx io n).sio 40 = none := rfl
@[simp] theorem cl_40 (io : Option Nat) (n : Nat) (avs : List Av) (σ : En) : callD (Sx io n) 40 avs σ = (Res.gt (plainAll avs)).bd fun ds => ret1 (Φ n 40 ds) σ := call_0 σ (si_40 io n) avs
theorem si_41 (io : Option Nat) (n : Nat) : (Sx io n).sio 41 = none := rfl
@[simp] theorem cl_41 (io : Option Nat) (n : Nat) (avs : List Av) (σ : En) : callD (Sx io n) 41 avs σ = (Res.gt (plainAll avs)).bd fun ds => ret1 (Φ n 41 ds) σ := call_0 σ (si_41 io n) avs
theorem si_42 (io : Option Nat) (n : Nat) : (Sx io n).sio 42 = none := rfl
@[simp] theorem cl_42 (io : Option Nat) (n : Nat) (avs : List Av) (σ : En) : callD (Sx io n) 42 avs σ = (Res.gt (plainAll avs)).bd fun ds => ret1 (Φ n 42 ds) σ := call_0 σ (si_42 io n) avs
theorem si_43 (io : Option Nat) (n : Nat) : (Sx io n).sio 43 = some 0 := rfl
@[simp] theorem cp_43 (io : Option Nat) (n i : Nat) (avs : List Av) (x : Sv) (r : En) : callD (Sx io n) 43 (.pk i :: avs) (x :: r) = ioR (Φ n 43) ((x :: r)[i]?) (plainAll avs) i (x :: r) := call_ioR (si_43 io n) avs
@[simp] theorem cw_43 (io : Option Nat) (n : Nat) (ds : List D) (avs : List Av) (σ : En) : callD (Sx io n) 43 (.own ds :: avs) σ = (Res.gt (plainAll avs)).bd fun bs => ret1 (Φ n 43 (.list ds :: bs)) σ := call_ownR (si_43 io n) avs
theorem si_44 (io : Option Nat) (n : Nat) : (Sx io n).sio 44 = none := rfl
@[simp] theorem cl_44 (io : Option Nat) (n : Nat) (avs : List Av) (σ : En) : callD (Sx io n) 44 avs σ = (Res.gt (plainAll avs)).bd fun ds => ret1 (Φ n 44 ds) σ := call_0 σ (si_44 io n) avs
theorem si_45 (io : Option Nat) (n : Nat) : (Sx io n).sio 45 = some 0 := rfl
@[simp] theorem cp_45 (io : Option Nat) (n i : Nat) (avs : List Av) (x : Sv) (r : En) : callD (Sx io n) 45 (.pk i :: avs) (x :: r) = ioR (Φ n 45) ((x :: r)[i]?) (plainAll avs) i (x :: r) := call_ioR (si_45 io n) avs
@[simp] theorem cw_45 (io : Option Nat) (n : Nat) (ds : List D) (avs : List Av) (σ : En) : callD (Sx io n) 45 (.own ds :: avs) σ = (Res.gt (plainAll avs)).bd fun bs => ret1 (Φ n 45 (.list ds :: bs)) σ := call_ownR (si_45 io n) avs
theorem si_46 (io : Option Nat) (n : Nat) : (Sx io n).sio 46 = none := rfl
@[simp] theorem cl_46 (io : Option Nat) (n : Nat) (avs : List Av) (σ : En) : callD (Sx io n) 46 avs σ = (Res.gt (plainAll avs)).bd fun ds => ret1 (Φ n 46 ds) σ := call_0 σ (si_46 io n) avs
end K04

end

section
set_option maxHeartbeats 1000000
namespace K04
open PySem PySem.Spec PyProof.Rows L2 Mp
/-! ### whole numbers and fractions -/
theorem r_is_whole (n : Nat) (i : Int) : Φ (n + 1) 0 [.int i] = .ok (.val (.bool true), []) := by
  rw [at_ (F := F0) rfl rfl rfl]
  simp [F0, outD_none, startE]
theorem r_common2 (n : Nat) (a b : Int) : Φ (n + 1) 2 [.list [.int a, .int b]] = .ok (.val (.int ((Nat.gcd a.natAbs b.natAbs : Nat) : Int)), []) := by
  rw [at_ (F := F2) rfl rfl rfl]
  simp [F2, outD_none, startE]
theorem r_lowest2 (n : Nat) (a b : Int) {g : Int} (hg : ((Nat.gcd a.natAbs b.natAbs : Nat) : Int) = g) (h2 : binD .fdiv (.int a) (.int g) = some (.val (.int (a.fdiv g)))) (h3 : binD .fdiv (.int b) (.int g) = some (.val (.int (b.fdiv g)))) :
    Φ (n + 2) 3 [.list [.int a, .int b]] = .ok (.val (.tuple [.int (a.fdiv g), .int (b.fdiv g)]), []) := by
  rw [at_ (F := F3) rfl rfl rfl]
  simp [F3, outD_none, startE, r_common2, hg, h2, h3]
theorem r_over (n : Nat) (t b : Int) (h0 : b ≠ 0) (hk : lg b ≤ 9000 ∧ lg t ≤ 90000) : Φ (n + 3) 4 [.list [.int t], .int b] = .ok (.val (fr (Rat.divInt t b)), []) := by
  rw [at_ (F := F4) rfl rfl rfl]
  have h1 : Sz 1 (1 : Int) := by unfold Sz; decide
  have h2 : Sz 1 (-1 : Int) := by unfold Sz; decide
  have hb := sz_lg b
  have ht := sz_lg t
  by_cases hp : 0 < b
  · have e1 := bin_mulS h1 ht (by omega)
    have e2 := bin_mulS h1 hb (by omega)
    simp [F4, outD_none, startE, hp, e1, e2, r_lowest2 n t b rfl (bin_fdivS (hb.gcd h0) (gcd_ne h0) (by omega)) (bin_fdivS (hb.gcd h0) (gcd_ne h0) (by omega))]
    rw [fdiv_gcd_l, fdiv_gcd_r, fr_low hp]
  · have hn : 0 < -b := by omega
    have e1 := bin_mulS h2 ht (by omega)
    have e2 := bin_mulS h2 hb (by omega)
    have e3 := r_lowest2 n (-t) (-b) rfl (bin_fdivS (hb.neg.gcd (by omega)) (gcd_ne (by omega)) (by omega)) (bin_fdivS (hb.neg.gcd (by omega)) (gcd_ne (by omega)) (by omega))
    simp [F4, outD_none, startE, hp, e1, e2, e3]
    have e4 := fr_low (a := -t) hn
    rw [← fdiv_gcd_l, ← fdiv_gcd_r, Rat.neg_divInt_neg] at e4
    simpa using e4
theorem r_ratio (n : Nat) (t b : Int) (h0 : b ≠ 0) (hk : lg b ≤ 9000 ∧ lg t ≤ 90000) : Φ (n + 4) 5 [.int t, .int b] = .ok (.val (fr (Rat.divInt t b)), []) := by
  rw [at_ (F := F5) rfl rfl rfl]
  simp [F5, outD_none, startE, r_over n t b h0 hk]
theorem r_minus (n : Nat) (a b : Rat) (h : lq a + lq b ≤ 9000) : Φ (n + 5) 6 [fr a, fr b] = .ok (.val (fr (a - b)), []) := by
  rw [at_ (F := F6) rfl rfl rfl]
  have e := r_ratio n (h0 := dens_ne a b) (t := a.num * (b.den : Nat) - b.num * (a.den : Nat)) (hk := by unfold lq at h; constructor <;> grind [lg_mul, lg_sub])
  rw [sub_divInt] at e
  unfold lq at h
  simp [fr] at e
  simp [F6, outD_none, startE, fr, bin_mulL (i := a.num) (j := (b.den : Nat)) (by omega), bin_mulL (i := b.num) (j := (a.den : Nat)) (by omega), bin_mulL (i := (a.den : Nat)) (j := (b.den : Nat)) (by omega), e]
theorem r_times (n : Nat) (a b : Rat) (h : lq a + lq b ≤ 9000) : Φ (n + 5) 7 [fr a, fr b] = .ok (.val (fr (a * b)), []) := by
  rw [at_ (F := F7) rfl rfl rfl]
  have e := r_ratio n (h0 := dens_ne a b) (t := a.num * b.num) (hk := by unfold lq at h; constructor <;> grind [lg_mul])
  rw [mul_divInt] at e
  unfold lq at h
  simp [fr] at e
  simp [F7, outD_none, startE, fr, bin_mulL (i := a.num) (j := b.num) (by omega), bin_mulL (i := (a.den : Nat)) (j := (b.den : Nat)) (by omega), e]
theorem r_divided (n : Nat) (a b : Rat) (h0 : b ≠ 0) (h : lq a + lq b ≤ 9000) : Φ (n + 5) 8 [fr a, fr b] = .ok (.val (fr (a / b)), []) := by
  rw [at_ (F := F8) rfl rfl rfl]
  have e := r_ratio n (h0 := Int.mul_ne_zero (den_ne a) (num_ne h0)) (t := a.num * (b.den : Nat)) (hk := by unfold lq at h; constructor <;> grind [lg_mul])
  rw [div_divInt] at e
  unfold lq at h
  simp [fr] at e
  simp [F8, outD_none, startE, fr, bin_mulL (i := a.num) (j := (b.den : Nat)) (by omega), bin_mulL (i := (a.den : Nat)) (j := b.num) (by omega), e]
theorem r_lt (n : Nat) (a b : Rat) (h : lq a + lq b ≤ 100000000) : Φ (n + 1) 9 [fr a, fr b] = .ok (.val (.bool (decide (a < b))), []) := by
  rw [at_ (F := F9) rfl rfl rfl]
  unfold lq at h
  simp [F9, outD_none, startE, fr, bin_mulL (i := a.num) (j := (b.den : Nat)) (by omega), bin_mulL (i := b.num) (j := (a.den : Nat)) (by omega), ← Rat.lt_iff]
theorem r_wholes2 (n : Nat) (a b : Int) : Φ (n + 2) 1 [.tuple [.int a, .int b], .int 2] = .ok (.val (.bool true), []) := by
  rw [at_ (F := F1) rfl rfl rfl]
  simp [F1, outD_none, startE, r_is_whole]
theorem r_is_fraction (n : Nat) (a b : Int) : Φ (n + 3) 10 [.tuple [.int a, .int b]] = .ok (.val (.bool (decide (0 < b) && decide (Nat.gcd a.natAbs b.natAbs = 1))), []) := by
  rw [at_ (F := F10) rfl rfl rfl]
  by_cases h : 0 < b
  · simp [F10, outD_none, startE, r_wholes2, h]
    omega
  · simp [F10, outD_none, startE, r_wholes2, h]
theorem r_is_fr (n : Nat) (q : Rat) : Φ (n + 3) 10 [fr q] = .ok (.val (.bool true), []) := by
  have e := r_is_fraction n q.num (q.den : Nat)
  have h1 : (0 : Int) < (q.den : Nat) := by
    have := q.den_nz
    omega
  have h2 : Nat.gcd q.num.natAbs ((q.den : Nat) : Int).natAbs = 1 := q.reduced
  simp only [h1, h2, decide_true, Bool.and_self] at e
  exact e

end K04

end

section
set_option maxHeartbeats 1000000
namespace K04
open PySem PySem.Spec PyProof.Rows L2 Mp
/-! ### kinds -/
theorem r_slope (n : Nat) (c d : Rat × Rat) (h : lc c + lc d ≤ 900) (h0 : c.1 < d.1) : Φ (n + 6) 15 [cn c, cn d] = .ok (.val (fr ((d.2 - c.2) / (d.1 - c.1))), []) := by
  rw [at_ (F := F15) rfl rfl rfl]
  have nz : d.1 - c.1 ≠ 0 := by grind
  unfold lc at h
  simp (disch := first | assumption | grind [lq_sub]) [F15, outD_none, startE, cn, r_minus, r_divided]
theorem r_is_corner (n : Nat) (c : Rat × Rat) : Φ (n + 5) 18 [cn c] = .ok (.val (.bool true), []) := by
  rw [at_ (F := F18) rfl rfl rfl]
  have e : Φ (n + 4) 12 [cn c, .int 2] = .ok (.val (.bool true), []) := by
    rw [at_ (F := F12) rfl rfl rfl]
    simp [F12, outD_none, startE, cn, r_is_fr]
  simp [F18, outD_none, startE, e]

end K04

end

section
set_option maxHeartbeats 1000000
namespace K04
open PySem PySem.Spec PyProof.Rows L2 Mp
/-! ### what is a kind -/
theorem r_speeds (n : Nat) {L : List (Rat × Rat)} {k : Nat} (h : Ord k L) (hk : k ≤ 200 := by omega) : Φ (n + 7) 16 [KD L] = .ok (.val (.tuple ((slopes L).map fr)), []) := by
  rw [at_ (F := F16) rfl rfl rfl]
  simp [F16, outD_none, startE, cutD_tail, -comp_told]
  rw [comp_each (prs L) (pr2 cn) (fun p => fr (slope p))]
  · simp [slopes]
  · simp [cutD_tail, zip_prs]
  · have := prs_length L
    have := h.len
    omega
  · intro p hp
    have e := r_slope n p.1 p.2 (by have := h.sz _ (mem_prs hp).1; have := h.sz _ (mem_prs hp).2; omega) (h.inc _ hp)
    simp [pr2, e, slope, KeptE]
theorem r_is_kind (n : Nat) {L : List (Rat × Rat)} (h : VK L) (hs : ∀ c ∈ L, lc c ≤ 200) : Φ (n + 8) 17 [KD L] = .ok (.val (.bool true), []) := by
  rw [at_ (F := F17) rfl rfl rfl]
  have ho := h.ord hs
  have hlen := prs_length L
  have hlen2 : (slopes L).length = (prs L).length := by simp [slopes]
  have hlen3 := prs_length (slopes L)
  have l1 := h.len
  have l2 := h.len2
  have l3 : (3 : Int) ≤ (L.length : Nat) := by omega
  have l4 : ((L.length : Nat) : Int) ≤ 12 := by omega
  have e0 : ixD (L.map cn) 0 = some (cn (0, 0)) := by
    have := h.hd
    cases L with
    | nil => cases this
    | cons c l =>
      cases this
      simp
  have e1 := h.lst
  simp [F17, outD_none, startE, l3, l4, -comp_told]
  rw [comp_none L cn (by simp) (by omega) (fun c _ => by simp [r_is_corner, KeptE])]
  have e3 : eqD (cn (0, 0)) (.tuple [fr 0, fr 0]) = some true := by
    have := eqD_cn (0, 0) (0, 0)
    simpa [cn] using this
  have e4 : ixD (L.map cn) (-1) = some (.tuple [fr (L.getLastD (0, 0)).1, fr 0]) := by
    rw [ixD_full ho.ne]
    unfold cn
    rw [e1]
  simp [e0, e3, e4, eqD_fr, ← fr_0, -comp_told]
  rw [comp_none L.tail.dropLast cn (by simp [cutD_mid]) (by simp; omega) (fun c hc => by
    have : ¬ c.2.num ≤ 0 := by
      have := h.mid c hc
      have : ¬ c.2 ≤ 0 := by grind
      rwa [← num_nonpos] at this
    simp [cn, KeptE, fr, this])]
  simp [-comp_told]
  rw [comp_none (prs L) (pr2 cn) (by simp [cutD_tail, zip_prs]) (by omega) (fun c hc => by
    have := mem_prs hc
    have h1 := hs _ this.1
    have h2 := hs _ this.2
    unfold lc at h1 h2
    simp [pr2, cn, r_lt (n + 6) c.1.1 c.2.1 (by omega), h.inc c hc, KeptE])]
  simp [r_speeds n ho, -comp_told]
  rw [comp_none (prs (slopes L)) (pr2 fr) (by simp [cutD_tail, zip_prs]) (by omega) (fun c hc => by
    have := mem_prs hc
    have sz : ∀ x ∈ slopes L, lq x ≤ 2000 := fun x hx => by
      obtain ⟨p, hp, rfl⟩ := List.mem_map.mp hx
      have hm := mem_prs hp
      have := slope_size (hs _ hm.1) (hs _ hm.2) (h.inc _ hp)
      unfold slope
      omega
    have h1 := sz _ this.1
    have h2 := sz _ this.2
    simp [pr2, r_lt (n + 6) c.2 c.1 (by omega), h.dec c hc, KeptE])]
  simp

end K04

end

section
set_option maxHeartbeats 1000000
namespace K04
open PySem PySem.Spec PyProof.Rows L2 Mp
theorem r_check_kind (n : Nat) {L : List (Rat × Rat)} (h : VK L) (hs : ∀ c ∈ L, lc c ≤ 200) : Φ (n + 9) 19 [KD L] = .ok (.val .none, []) := by
  rw [at_ (F := F19) rfl rfl rfl]
  simp [F19, outD_none, startE, r_is_kind n h hs]

end K04

end

section
set_option maxHeartbeats 1000000
namespace K04
open PySem PySem.Spec PyProof.Rows L2 Mp
/-! ### springs and the law's fractions -/
theorem r_draw (n : Nat) {C : Ck} {t k : Int} (h : C.ok k) (hk : k ≤ 1000000) (h0 : 0 < t) (h1 : t < 10000000000) : Φ (n + 1) 24 [.list C.l, .int t] = .ok (.val (.int (dwV C t)), (dwS C t).l) := by
  rw [at_ (F := F24) rfl rfl rfl]
  have q1 := h.1
  have q2 := h.2
  have q3 := h.3
  have q4 := h.4
  have q5 := h.5
  have b0 : lg t ≤ 40 := lg_lt (by omega) (by omega)
  by_cases p : 0 < C.a
  · simp [F24, startE, Ck.l, p, bin_modP h0, bin_fdivP h0 (by omega : lg t ≤ 9000), dwV, dwS]
  · have b1 : lg C.s ≤ 31 := lg_lt q2 q3
    have b2 : lg (31607 + 6 * (C.n + 1)) ≤ 40 := lg_lt (by omega) (by omega)
    have b3 : lg (C.n + 1) ≤ 30 := lg_lt (by omega) (by omega)
    have b4 : lg 90247 ≤ 20 := lg_lt (by omega) (by omega)
    have b5 : lg 71 ≤ 20 := lg_lt (by omega) (by omega)
    have b6 : lg 6 ≤ 20 := lg_lt (by omega) (by omega)
    simp [F24, startE, Ck.l, p, dwV, dwS, bin_modP, bin_fdivP (j := 71) (by decide) (by omega), bin_mulL (i := C.s) (j := 31607 + 6 * (C.n + 1)) (by omega), bin_mulL (i := 6) (j := C.n + 1) (by omega), bin_mulL (i := 90247) (j := C.n + 1) (by omega), b5, h0]
    simp [dwN]
theorem r_pick (n : Nat) {C : Ck} {ds : List D} {k : Int} (h : C.ok k) (hk : k ≤ 1000000) (h0 : 0 < ds.length) (h1 : ds.length ≤ 1000) : Φ (n + 2) 25 [.list C.l, .list ds] = .ok (.val (ds.getD (dwV C ds.length).toNat .none), (dwS C ds.length).l) := by
  rw [at_ (F := F25) rfl rfl rfl]
  have e := r_draw n h hk (t := (ds.length : Nat)) (by omega) (by omega)
  have e2 := ixD_getD (ds := ds) (i := dwV C ds.length) (dwV_lo C (by omega)) (dwV_hi C (by omega))
  simp [F25, startE, e, e2]
theorem r_pickT (n : Nat) {C : Ck} {ds : List D} {k : Int} (h : C.ok k) (hk : k ≤ 1000000) (h0 : 0 < ds.length) (h1 : ds.length ≤ 1000) : Φ (n + 2) 25 [.list C.l, .tuple ds] = .ok (.val (ds.getD (dwV C ds.length).toNat .none), (dwS C ds.length).l) := by
  rw [at_ (F := F25) rfl rfl rfl]
  have e := r_draw n h hk (t := (ds.length : Nat)) (by omega) (by omega)
  have e2 := ixD_getD (ds := ds) (i := dwV C ds.length) (dwV_lo C (by omega)) (dwV_hi C (by omega))
  simp [F25, startE, e, e2]
theorem r_shared (n : Nat) (a b : Int) : Φ (n + 1) 26 [.int a, .int b] = .ok (.val (.int ((Nat.gcd a.natAbs b.natAbs : Nat) : Int)), []) := by
  rw [at_ (F := F26) rfl rfl rfl]
  simp [F26, startE, outD_none]
  generalize hz : whileD _ _ _ = z
  have := euclid (st := fun x y => [.val (.int a), .val (.int b), .val (.int x), .val (.int y)]) (fun x y h1 h2 => by
    by_cases p : y = 0
    · subst p; simp
    · simp [p]; omega) (fun x y h1 h2 => by simp [bin_modP h2]) (by omega) (by omega) hz
  subst this
  simp
theorem r_frac (n : Nat) (a b : Int) (h0 : b ≠ 0) (hk : lg b ≤ 9000) : Φ (n + 2) 27 [.int a, .int b] = .ok (.val (fr (Rat.divInt a b)), []) := by
  rw [at_ (F := F27) rfl rfl rfl]
  have e := r_shared n a b
  have sg : lg ((Nat.gcd a.natAbs b.natAbs : Nat) : Int) ≤ 9000 := lg_le (((sz_lg b).gcd h0).mono (by omega))
  have g0 := gcd_ne (a := a) h0
  by_cases p : 0 < b
  · have f := fr_low (a := a) p
    have gp : (0 : Int) < ((Nat.gcd a.natAbs b.natAbs : Nat) : Int) := by omega
    have m1 := bin_fdivP (i := a) gp sg
    have m2 := bin_fdivP (i := b) gp sg
    rw [← f]
    simp [F27, startE, outD_none, e, p, m1, m2]
  · have pn : b < 0 := by omega
    have f := fr_low (a := -a) (b := -b) (by omega)
    rw [Rat.neg_divInt_neg, Int.natAbs_neg, Int.natAbs_neg] at f
    obtain ⟨d1, d2⟩ := fdiv_neg_gcd a b pn
    have sg' : lg (0 - ((Nat.gcd a.natAbs b.natAbs : Nat) : Int)) ≤ 9000 := by
      rw [Int.zero_sub]
      have := lg_neg ((Nat.gcd a.natAbs b.natAbs : Nat) : Int)
      omega
    have m1 := bin_fdivL (i := a) (show 0 - ((Nat.gcd a.natAbs b.natAbs : Nat) : Int) ≠ 0 by omega) sg'
    have m2 := bin_fdivL (i := b) (show 0 - ((Nat.gcd a.natAbs b.natAbs : Nat) : Int) ≠ 0 by omega) sg'
    rw [d1] at m1
    rw [d2] at m2
    rw [← f]
    simp only [Int.zero_sub] at m1 m2
    simp [F27, startE, outD_none, e, p, m1, m2]
theorem r_ladd (n : Nat) (a b : Rat) (h : lq a + lq b ≤ 9000) : Φ (n + 3) 28 [fr a, fr b] = .ok (.val (fr (a + b)), []) := by
  rw [at_ (F := F28) rfl rfl rfl]
  have e := r_frac n (a.num * (b.den : Nat) + b.num * (a.den : Nat)) _ (dens_ne a b) (by unfold lq at h; grind [lg_mul])
  rw [add_divInt] at e
  unfold lq at h
  simp [F28, outD_none, startE, bin_mulL (i := a.num) (j := (b.den : Nat)) (by omega), bin_mulL (i := b.num) (j := (a.den : Nat)) (by omega), bin_mulL (i := (a.den : Nat)) (j := (b.den : Nat)) (by omega), e]
theorem r_lsub (n : Nat) (a b : Rat) (h : lq a + lq b ≤ 9000) : Φ (n + 3) 29 [fr a, fr b] = .ok (.val (fr (a - b)), []) := by
  rw [at_ (F := F29) rfl rfl rfl]
  have e := r_frac n (a.num * (b.den : Nat) - b.num * (a.den : Nat)) _ (dens_ne a b) (by unfold lq at h; grind [lg_mul])
  rw [sub_divInt] at e
  unfold lq at h
  simp [F29, outD_none, startE, bin_mulL (i := a.num) (j := (b.den : Nat)) (by omega), bin_mulL (i := b.num) (j := (a.den : Nat)) (by omega), bin_mulL (i := (a.den : Nat)) (j := (b.den : Nat)) (by omega), e]
theorem r_lmul (n : Nat) (a b : Rat) (h : lq a + lq b ≤ 9000) : Φ (n + 3) 30 [fr a, fr b] = .ok (.val (fr (a * b)), []) := by
  rw [at_ (F := F30) rfl rfl rfl]
  have e := r_frac n (a.num * b.num) _ (dens_ne a b) (by unfold lq at h; grind [lg_mul])
  rw [mul_divInt] at e
  unfold lq at h
  simp [F30, outD_none, startE, bin_mulL (i := a.num) (j := b.num) (by omega), bin_mulL (i := (a.den : Nat)) (j := (b.den : Nat)) (by omega), e]
theorem r_ldiv (n : Nat) (a b : Rat) (h0 : b ≠ 0) (h : lq a + lq b ≤ 9000) : Φ (n + 3) 31 [fr a, fr b] = .ok (.val (fr (a / b)), []) := by
  rw [at_ (F := F31) rfl rfl rfl]
  have e := r_frac n (a.num * (b.den : Nat)) _ (Int.mul_ne_zero (den_ne a) (num_ne h0)) (by unfold lq at h; grind [lg_mul])
  rw [div_divInt] at e
  unfold lq at h
  simp [F31, outD_none, startE, bin_mulL (i := a.num) (j := (b.den : Nat)) (by omega), bin_mulL (i := (a.den : Nat)) (j := b.num) (by omega), e]
theorem r_under (n : Nat) (a b : Rat) (h : lq a + lq b ≤ 50000000) : Φ (n + 1) 32 [fr a, fr b] = .ok (.val (.bool (decide (a < b))), []) := by
  rw [at_ (F := F32) rfl rfl rfl]
  unfold lq at h
  simp [F32, outD_none, startE, bin_mulL (i := a.num) (j := (b.den : Nat)) (by omega), bin_mulL (i := b.num) (j := (a.den : Nat)) (by omega), ← Rat.lt_iff]
theorem r_part (n : Nat) (a b c : Rat) (h : 3 * lq a + 2 * lq b + lq c + 1 ≤ 9000) : Φ (n + 4) 34 [fr a, fr b, fr c] = .ok (.val (fr (a + c * (b - a))), []) := by
  rw [at_ (F := F34) rfl rfl rfl]
  have s1 := lq_sub b a
  have s2 := lq_mul c (b - a)
  have e1 := r_lsub n b a (by omega)
  have e2 := r_lmul n c (b - a) (by omega)
  have e3 := r_ladd n a (c * (b - a)) (by omega)
  simp [F34, outD_none, startE, e1, e2, e3]

end K04

end

section
set_option maxHeartbeats 1000000
namespace K04
open PySem PySem.Spec PyProof.Rows L2 Mp
theorem r_spring (n : Nat) (ns : List Int) (hn : ns.length ≤ 63) {t : Nat} (ht : t ≤ 20) : ∃ C : Ck, C.ok 0 ∧ Φ (n + 1) 23 [.list (ns.map .int), .int (t : Nat)] = .ok (.own C.l, []) := by
  rw [at_ (F := F23) rfl rfl rfl]
  have tb := lg_nat (i := (t : Nat)) (B := 20) (k := 5) (by omega) (by decide)
  have m1 := bin_mulL (i := 5171) (j := (t : Nat)) (by have := lg_nat (i := 5171) (B := 5171) (k := 13) (by decide) (by decide); omega)
  have m2 := bin_mulL (i := 2903) (j := (t : Nat)) (by have := lg_nat (i := 2903) (B := 2903) (k := 13) (by decide) (by decide); omega)
  have hp := bin_powN (i := 10) (j := 18) (by decide)
  simp at hp
  have c63 : Mp.cutD (ns.map .int) none (some 63) = ns.map .int := by
    have := cutD_to (ns.map .int) 63
    rw [List.take_of_length_le (by simp; omega)] at this
    exact this
  have c5 : Mp.cutD (ns.map .int) none (some 5) = List.take 5 (ns.map .int) := cutD_to (ns.map .int) 5
  have s5 : biD .sum [.list (List.take 5 (ns.map .int))] = some (.val (.int (ns.take 5).sum)) := by
    rw [← List.map_take]
    exact bi_sum_ints _
  have hl : ns.length + 1 ≤ 4096 := by omega
  have fin : ∀ (own : Int) (z : Mp.R (Fl × En)) (S : Sc) (T : Tg) (B rest : Sms), forD (fb S T B) ((ns ++ [own]).map .int, none) ((ns ++ [own]).map .int) [.val (.list (ns.map .int)), .val (.int (t : Nat)), .val (.int own), .val (.int (70657 + 2903 * (t : Nat))), .un] = z →
      (∀ (x c : Int) (a : Sv), 0 ≤ x → x < 2147483629 → fb S T B (.int c) [.val (.list (ns.map .int)), .val (.int (t : Nat)), .val (.int own), .val (.int x), a] = .ok (.nx, [.val (.list (ns.map .int)), .val (.int (t : Nat)), .val (.int own), .val (.int ((x * 52919 + c % 2147483629 + 29) % 2147483629)), .val (.int c)])) →
      (∀ (y : Int) (a : Sv), evSs S rest [.val (.list (ns.map .int)), .val (.int (t : Nat)), .val (.int own), .val (.int y), a] = .ok (.ret (.own [.int (if own < 0 ∨ 1000000000000000000 ≤ own then ((own.natAbs : Nat) : Int) else 0), .int y, .int 0]), [.val (.list (ns.map .int)), .val (.int (t : Nat)), .val (.int own), .val (.int y), a])) →
      ∃ C : Ck, C.ok 0 ∧ end0 (z.bd fun q => nxt q (evSs S rest)) = .ok (.own C.l, []) := fun own z S T B rest hz hb hr => by
    have key := for_rel (α := Int) (β := Int) (b := 70657 + 2903 * (t : Nat)) (f := .int) (fun x σ => ∃ a, 0 ≤ x ∧ x < 2147483629 ∧ σ = [.val (.list (ns.map .int)), .val (.int (t : Nat)), .val (.int own), .val (.int x), a]) (fun x (c : Int) => .go ((x * 52919 + c % 2147483629 + 29) % 2147483629)) (l := ns ++ [own]) hz ⟨_, by omega, by omega, rfl⟩
      (fun x c σ hc ⟨a, h0, h1, e⟩ => by
        subst e
        rw [hb x c a h0 h1]
        exact ⟨_, rfl, _, Int.emod_nonneg _ (by decide), Int.emod_lt_of_pos _ (by decide), rfl⟩)
    rw [loopR_fold (fun (x c : Int) => (x * 52919 + c % 2147483629 + 29) % 2147483629)] at key
    obtain ⟨σ, rfl, a, h0, h1, rfl⟩ := key
    generalize List.foldl _ _ _ = y at h0 h1
    refine ⟨⟨if own < 0 ∨ 1000000000000000000 ≤ own then ((own.natAbs : Nat) : Int) else 0, y, 0⟩, ⟨?_, h0, ?_, Int.le_refl 0, Int.le_refl 0⟩, ?_⟩
    · show 0 ≤ (if own < 0 ∨ 1000000000000000000 ≤ own then ((own.natAbs : Nat) : Int) else 0)
      split <;> omega
    · show y < 2147483648
      omega
    · simp only [rb_ok, nxt_nx]
      rw [hr y a]
      rfl
  have bx : ∀ x : Int, 0 ≤ x → x < 2147483629 → binD .mul (.int x) (.int 52919) = some (.val (.int (x * 52919))) := fun x h0 h1 => bin_mulL (by have := lg_lt (i := x) (k := 31) h0 (by omega); have := lg_nat (i := 52919) (B := 52919) (k := 16) (by decide) (by decide); omega)
  by_cases p : t < ns.length
  · have e0 : ixD (ns.map .int) (t : Nat) = some (.int ns[t]) := by
      apply ixD_nat
      simp [List.getElem?_eq_getElem p]
    have p' : ((t : Nat) : Int) < (ns.length : Nat) := by omega
    simp [F23, startE, outD_none, m1, m2, e0, p', c63, hl]
    generalize ns[t] = own
    generalize hz : forD _ _ _ _ = z
    have hm : ns.map PyData.int ++ [.int own] = (ns ++ [own]).map .int := by simp
    rw [hm] at hz
    refine fin own z _ _ _ _ hz (fun x c a h0 h1 => by simp [bx x h0 h1, bin_modP]) (fun y a => ?_)
    by_cases q1 : own < 0
    · simp [q1]
    · by_cases q2 : 1000000000000000000 ≤ own
      · simp [q1, q2, hp]
      · simp [q1, q2, hp]
  · have p' : ¬ ((t : Nat) : Int) < (ns.length : Nat) := by omega
    simp [F23, startE, outD_none, m1, m2, p', c63, c5, s5, hl, bin_modP]
    generalize hown : (5171 : Int) * ((t : Nat) : Int) + 367 + (ns.take 5).sum % 1000033 = own
    generalize hz : forD _ _ _ _ = z
    have hm : ns.map PyData.int ++ [.int own] = (ns ++ [own]).map .int := by simp
    rw [hm] at hz
    refine fin own z _ _ _ _ hz (fun x c a h0 h1 => by simp [bx x h0 h1, bin_modP]) (fun y a => ?_)
    by_cases q1 : own < 0
    · simp [q1]
    · by_cases q2 : 1000000000000000000 ≤ own
      · simp [q1, q2, hp]
      · simp [q1, q2, hp]

end K04

end

section
set_option maxHeartbeats 1000000
namespace K04
open PySem PySem.Spec PyProof.Rows L2 Mp
/-! ### drawn roads -/
theorem r_dv (n : Nat) {C : Ck} {i j : Int} (hi : 0 < i) (hj : 0 < j) (hi2 : i ≤ 1000) (hj2 : j ≤ 1000) : Φ (n + 2) 27 [.int (1 + dwV C i), .int (1 + dwV (dwS C i) j)] = .ok (.val (fr (dvV C i j)), []) := by
  have h1 := dwV_lo C hi
  have h2 := dwV_lo (dwS C i) hj
  have h3 := dwV_hi C hi
  have h4 := dwV_hi (dwS C i) hj
  have l2 := lg_nat (i := 1 + dwV (dwS C i) j) (B := 1000) (k := 10) (by omega) (by decide)
  exact r_frac n _ _ (by omega) (by omega)
theorem r_small (n : Nat) {C : Ck} {k : Int} (h : C.ok k) (hk : k ≤ 999000) : Φ (n + 3) 36 [.list C.l] = .ok (.val (fr (dvV C 4 2)), (dvS C 4 2).l) := by
  rw [at_ (F := F36) rfl rfl rfl]
  have e1 := r_draw (n + 1) h (t := 4) (by omega) (by decide) (by decide)
  have e2 := r_draw (n + 1) (h.dw (t := 4) (by decide)) (t := 2) (by omega) (by decide) (by decide)
  have e3 := r_dv n (C := C) (i := 4) (j := 2) (by decide) (by decide) (by decide) (by decide)
  simp [F36, startE, e1, e2, e3]
  rfl
theorem r_lmulU (n : Nat) (u v : U) (h : lu u + lu v ≤ 9000) : Φ (n + 3) 30 [ud u, ud v] = .ok (.val (fr (u.val * v.val)), []) := by
  rw [at_ (F := F30) rfl rfl rfl]
  have e := r_frac n (u.a * v.a) (u.b * v.b) (by have := Int.mul_pos u.pos v.pos; omega) (by unfold lu at h; have := lg_mul u.b v.b; omega)
  have ev : Rat.divInt (u.a * v.a) (u.b * v.b) = u.val * v.val := by rw [← val_mul]; rfl
  rw [ev] at e
  unfold lu at h
  simp [F30, outD_none, startE, bin_mulL (i := u.a) (j := v.a) (by omega), bin_mulL (i := u.b) (j := v.b) (by omega), e]
/-- so many parts of the way, the parts not reduced -/
theorem r_partU (n : Nat) (a b : Rat) (u : U) (h : 4 * lq a + 4 * lq b + 2 * lu u ≤ 4000) : Φ (n + 4) 34 [fr a, fr b, ud u] = .ok (.val (fr (a + u.val * (b - a))), []) := by
  rw [at_ (F := F34) rfl rfl rfl]
  have s1 := lq_sub b a
  have s0 := lq_val u
  have s2 := lq_mul u.val (b - a)
  have e1 := r_lsub n b a (by omega)
  have e2 : Φ (n + 3) 30 [ud u, fr (b - a)] = .ok (.val (fr (u.val * (b - a))), []) := by
    have := r_lmulU n u (U.of (b - a)) (by rw [lu_of]; omega)
    rw [val_of] at this
    exact this
  have e3 := r_ladd n a (u.val * (b - a)) (by omega)
  simp [F34, outD_none, startE, e1, e2, e3]
/-- the loop of a road -/
theorem road_fin {m : Int} {ps : List Rat} {b : Rat} (hp : Pcs (ps ++ [b])) {C3 : Ck} (ho : C3.ok (m + 20)) {v1 v2 v4 v5 v6 v7 : Sv} {S : Sc} {T : Tg} {B rest : Sms} {z : Mp.R (Fl × En)}
    (hz : forD (fb S T B) (ps.map fr, none) (ps.map fr) [.own C3.l, v1, v2, .val (fr b), v4, v5, v6, .own (([(0, 0)] : List (Rat × Rat)).map cn), .val (fr 0), .val (fr 0), .un, .un, v7] = z)
    (turn : ∀ (C : Ck) (p k q : Rat) (f : List (Rat × Rat)) (a1 a2 : Sv), C.ok (m + 40) → lq k ≤ 140 → lq q ≤ 27 → lq p ≤ 16 → f.length ≤ 5 → (q + p * dvV C 3 2 ≤ 0 → p ≠ 0) → ∃ (w : Rat) (a1' a2' : Sv), (w = dvV C 3 2 ∧ ¬ q + p * dvV C 3 2 ≤ 0 ∨ w = q / (-2 * p) ∧ q + p * dvV C 3 2 ≤ 0) ∧
      fb S T B (fr p) [.own C.l, v1, v2, .val (fr b), v4, v5, v6, .own (f.map cn), .val (fr k), .val (fr q), a1, a2, v7] = .ok (.nx, [.own (dvS C 3 2).l, v1, v2, .val (fr b), v4, v5, v6, .own ((f ++ [(k + w, q + p * w)]).map cn), .val (fr (k + w)), .val (fr (q + p * w)), a1', a2', v7]))
    (hr : ∀ (C : Ck) (k q : Rat) (f : List (Rat × Rat)) (a1 a2 : Sv), lq k ≤ 140 → lq q ≤ 27 → f.length ≤ 5 → outD (some 0) (evSs S rest [.own C.l, v1, v2, .val (fr b), v4, v5, v6, .own (f.map cn), .val (fr k), .val (fr q), a1, a2, v7]) = .ok (.val (KD (f ++ [(k - q / b, 0)])), C.l)) :
    ∃ (L : List (Rat × Rat)) (C' : Ck), outD (some 0) (z.bd fun q => nxt q (evSs S rest)) = .ok (.val (KD L), C'.l) ∧ RoadOk L ∧ C'.ok (m + 30) := by
  have l1 := hp.len
  have l2 := hp.len2
  simp only [List.length_append, List.length_cons, List.length_nil] at l1 l2
  have len_of : ∀ {done : List Rat} {k q : Rat} {f : List (Rat × Rat)}, RI done k q f → f.length = done.length + 1 := fun {done k q f} h => by
    have := congrArg List.length h.sl
    unfold slopes at this
    rw [List.length_map, prs_length] at this
    have := List.length_pos_iff.mpr h.ne
    omega
  have key := for_at (α := Rat) (f := fr) (fun done σ => ∃ C k q f a1 a2, C.ok (m + 20 + 2 * (done.length : Nat)) ∧ RI done k q f ∧ σ = [.own C.l, v1, v2, .val (fr b), v4, v5, v6, .own (f.map cn), .val (fr k), .val (fr q), a1, a2, v7]) ps (l := ps) (done := []) rfl hz
    ⟨C3, 0, 0, [(0, 0)], _, _, ho.mono (by simp), ⟨rfl, rfl, by simp, by simp, by simp [slopes], fun z => absurd rfl z, fun _ => rfl, by decide, by decide, ⟨0, by rw [Rat.zero_divInt], by simp⟩, by simp; decide⟩, rfl⟩
    (fun done p rst σ hL ⟨C, k, q, f, a1, a2, hC, hI, e⟩ => by
      subst e
      have dl : done.length + 1 + rst.length = ps.length := by rw [hL]; simp; omega
      have nd := hI.nd (by omega)
      have kn := hI.kn
      have kd := hI.kd
      have pm : p ∈ ps ++ [b] := by rw [hL]; simp
      have pb := hp.bd p pm
      have pz := pb.lq (k := 10) (m := 6) (by decide) (by decide) (by decide)
      have w0 : 0 < dvV C 3 2 := dvV_pos C (by decide) (by decide)
      have wb : Bd 2 6 (dvV C 3 2) := dvV_bd C (A := 3) (by decide) (by decide) (by decide) (two_dvd 2 rfl) (by decide)
      have first : done = [] → 0 < p := fun z => by
        subst z
        have := hp.hd
        rw [hL] at this
        simpa using this
      have fl := len_of hI
      have kz : lq k ≤ 140 := by rw [lq_nd]; omega
      have qz : lq q ≤ 27 := by rw [lq_nd]; omega
      obtain ⟨w, a1', a2', hw, e⟩ := turn C p k q f a1 a2 (hC.mono (by omega)) kz qz pz (by omega) (fun z => by
        have := (hI.halve (by omega) pb w0 first z).1
        grind)
      refine ⟨_, e, dvS C 3 2, _, _, _, _, _, (dvS_ok hC (by decide) (by decide)).mono (by simp; omega), ?_, rfl⟩
      rcases hw with ⟨rfl, z⟩ | ⟨rfl, z⟩
      · exact hI.plain (by omega) pb wb w0 (by grind)
      · exact (hI.halve (by omega) pb w0 first z).2)
  obtain ⟨σ, rfl, C, k, q, f, a1, a2, hC, hI, rfl⟩ := key
  have nd := hI.nd (by omega)
  have kn := hI.kn
  have kd := hI.kd
  have fl := len_of hI
  refine ⟨f ++ [(k - q / b, 0)], C, ?_, RI.end hp hI, hC.mono (by omega)⟩
  exact hr C k q f a1 a2 (by rw [lq_nd]; omega) (by rw [lq_nd]; omega) (by omega)
theorem r_road (n : Nat) {C : Ck} {m : Int} (h : C.ok m) (hm : m ≤ 1000) : ∃ (L : List (Rat × Rat)) (C' : Ck), Φ (n + 5) 37 [.list C.l] = .ok (.val (KD L), C'.l) ∧ RoadOk L ∧ C'.ok (m + 30) := by
  rw [at_ (F := F37) rfl rfl rfl]
  have h1 := h.dw (t := 5) (by decide)
  have e1 : ∃ many : Int, (many = 2 ∨ many = 3 ∨ many = 4) ∧ Φ (n + 4) 25 [.list C.l, .list [.int 2, .int 2, .int 3, .int 3, .int 4]] = .ok (.val (.int many), (dwS C 5).l) := by
    have e := r_pick (n + 2) (ds := [.int 2, .int 2, .int 3, .int 3, .int 4]) h (by omega) (by decide) (by decide)
    have a1 := dwV_lo C (t := 5) (by decide)
    have a2 := dwV_hi C (t := 5) (by decide)
    have e : Φ (n + 4) 25 [.list C.l, .list [.int 2, .int 2, .int 3, .int 3, .int 4]] = .ok (.val (List.getD [.int 2, .int 2, .int 3, .int 3, .int 4] (dwV C 5).toNat .none), (dwS C 5).l) := e
    generalize dwV C 5 = v at a1 a2 e
    obtain ⟨k, rfl⟩ := Int.eq_ofNat_of_zero_le a1
    have : k < 5 := by omega
    rcases k with _ | _ | _ | _ | _ | k
    · exact ⟨2, .inl rfl, e⟩
    · exact ⟨2, .inl rfl, e⟩
    · exact ⟨3, .inr (.inl rfl), e⟩
    · exact ⟨3, .inr (.inl rfl), e⟩
    · exact ⟨4, .inr (.inr rfl), e⟩
    · omega
  obtain ⟨many, hmany, e1⟩ := e1
  have e2 := r_small (n + 1) h1 (by omega)
  have o2 : (dvS (dwS C 5) 4 2).ok (m + 3) := (dvS_ok h1 (by decide) (by decide)).mono (by omega)
  have free0 := dvV_pos (dwS C 5) (i := 4) (j := 2) (by decide) (by decide)
  have freeb : Bd 6 24 (dvV (dwS C 5) 4 2) := dvV_bd (dwS C 5) (A := 4) (by decide) (by decide) (by decide) (two_dvd 6 rfl) (by decide)
  generalize dvV (dwS C 5) 4 2 = free at *
  generalize dvS (dwS C 5) 4 2 = C1 at *
  have e3 := r_draw (n + 3) o2 (t := 4) (by omega) (by decide) (by decide)
  have o3 := o2.dw (t := 4) (by decide)
  have e4 := r_draw (n + 3) o3 (t := 3) (by omega) (by decide) (by decide)
  have o4 := o3.dw (t := 3) (by decide)
  obtain ⟨back, hb0, hbb, e5⟩ : ∃ back : Rat, back < 0 ∧ Bd 6 24 back ∧ Φ (n + 4) 27 [.int (-1 - dwV C1 4), .int (1 + dwV (dwS C1 4) 3)] = .ok (.val (fr back), []) := by
    have a1 := dwV_lo C1 (t := 4) (by decide)
    have a2 := dwV_hi C1 (t := 4) (by decide)
    have a3 := dwV_lo (dwS C1 4) (t := 3) (by decide)
    have a4 := dwV_hi (dwS C1 4) (t := 3) (by decide)
    have l2 := lg_nat (i := 1 + dwV (dwS C1 4) 3) (B := 1000) (k := 10) (by omega) (by decide)
    exact ⟨_, divInt_neg (by omega) (by omega), Bd.of (A := 4) (by omega) (three_dvd 6 rfl _ (by omega) (by omega)) (by omega) (by decide), r_frac (n + 2) _ _ (by omega) (by omega)⟩
  generalize dwV C1 4 = v1 at e3 e5
  generalize dwV (dwS C1 4) 3 = v2 at e4 e5
  generalize dwS (dwS C1 4) 3 = C2 at e4 o4
  have e6 := r_draw (n + 3) o4 (t := 6) (by omega) (by decide) (by decide)
  have o5 := o4.dw (t := 6) (by decide)
  have a1 := dwV_lo C2 (t := 6) (by decide)
  have a2 := dwV_hi C2 (t := 6) (by decide)
  generalize dwV C2 6 = v3 at e6 a1 a2
  generalize dwS C2 6 = C3 at e6 o5
  have e7 := r_draw (n + 3) o5 (t := 7 - (1 + v3)) (by omega) (by omega) (by omega)
  have o6 := o5.dw (t := 7 - (1 + v3)) (by omega)
  have a3 := dwV_lo C3 (t := 7 - (1 + v3)) (by omega)
  have a4 := dwV_hi C3 (t := 7 - (1 + v3)) (by omega)
  generalize dwV C3 (7 - (1 + v3)) = v4 at e7 a3 a4
  generalize dwS C3 (7 - (1 + v3)) = C4 at e7 o6
  have fz := freeb.lq (k := 5) (m := 3) (by decide) (by decide) (by decide)
  have bz := hbb.lq (k := 5) (m := 3) (by decide) (by decide) (by decide)
  -- the paces between
  have mid : ∀ p : Int, 1 ≤ p → p ≤ 7 → Φ (n + 4) 34 [fr free, fr back, .tuple [.int p, .int 8]] = .ok (.val (fr (free + Rat.divInt p 8 * (back - free))), []) ∧ Bd 48 528 (free + Rat.divInt p 8 * (back - free)) := fun p p1 p2 => by
    have l1 := lg_nat (i := p) (B := 7) (k := 3) (by omega) (by decide)
    have l2 := lg_nat (i := 8) (B := 8) (k := 4) (by decide) (by decide)
    refine ⟨r_partU n free back ⟨p, 8, by decide⟩ (by unfold lu; simp only; omega), ?_⟩
    have b1 := (hbb.sub freeb (by decide))
    have b2 := (show Bd 8 7 (Rat.divInt p 8) from ⟨p, rfl, by omega⟩).mul b1
    have b3 := (freeb.scale (c := 8) (by decide)).add b2 (by decide)
    exact b3.mono (by decide)
  have freeB : Bd 48 528 free := (freeb.scale (c := 8) (by decide)).mono (by decide)
  have backB : Bd 48 528 back := (hbb.scale (c := 8) (by decide)).mono (by decide)
  have eighth : ∀ p q : Int, p < q → Rat.divInt p 8 < Rat.divInt q 8 := fun p q h => by
    have := divInt_pos (a := q - p) (b := 8) (by omega) (by decide)
    have e : Rat.divInt (q - p) 8 + Rat.divInt p 8 = Rat.divInt q 8 := by
      rw [Rat.divInt_add_divInt _ _ (by decide) (by decide)]
      rw [← Int.add_mul, Rat.divInt_mul_right (by decide)]
      congr 1
      omega
    grind
  have fall : ∀ p q : Int, p < q → free + Rat.divInt q 8 * (back - free) < free + Rat.divInt p 8 * (back - free) := fun p q h => by
    have := Rat.mul_lt_mul_of_pos_right (eighth p q h) (show 0 < free - back by grind)
    grind
  have e8 : Rat.divInt 8 8 = 1 := by decide +kernel
  have e0 : Rat.divInt 0 8 = 0 := by decide +kernel
  have top : ∀ p : Int, 0 < p → free + Rat.divInt p 8 * (back - free) < free := fun p h => by
    have := fall 0 p h
    rw [e0] at this
    grind
  have bot : ∀ p : Int, p < 8 → back < free + Rat.divInt p 8 * (back - free) := fun p h => by
    have := fall p 8 h
    rw [e8] at this
    grind
  have m2 : fr (-2) = .tuple [.int (-2), .int 1] := rfl
  have z2 : lq (-2) ≤ 3 := by decide
  obtain ⟨u1, u2⟩ := mid (1 + v3) (by omega) (by omega)
  have c0 : Mp.cutD [.int (1 + v3), .int (1 + v3 + 1 + v4)] none (some 0) = [] := cutD_to _ 0
  have c1 : Mp.cutD [.int (1 + v3), .int (1 + v3 + 1 + v4)] none (some 1) = [.int (1 + v3)] := cutD_to _ 1
  have c2 : Mp.cutD [.int (1 + v3), .int (1 + v3 + 1 + v4)] none (some 2) = [.int (1 + v3), .int (1 + v3 + 1 + v4)] := cutD_to _ 2
  have t1 := top (1 + v3) (by omega)
  have t2 := bot (1 + v3) (by omega)
  rcases hmany with rfl | rfl | rfl
  · simp [F37, startE, e1, e2, e3, e4, e5, e6, e7, u1, cutD_init, c0, -for_cons, -for_nil]
    generalize hz : forD _ _ _ _ = z
    exact road_fin (m := m) (ps := [free]) (b := back) ⟨by simp, by simp, by simp; grind, by simpa using free0, by simpa using hb0, by simp; exact ⟨freeB, backB⟩⟩ (C3 := C4) (o6.mono (by omega)) hz (fun C p k q f a1 a2 hC kz qz pz fl pn => by
            have w1 := r_draw (n + 3) hC (t := 3) (by omega) (by decide) (by decide)
            have w2 := r_draw (n + 3) (hC.dw (t := 3) (by decide)) (t := 2) (by omega) (by decide) (by decide)
            have w3 := r_dv (n + 2) (C := C) (i := 3) (j := 2) (by decide) (by decide) (by decide) (by decide)
            have wz : lq (dvV C 3 2) ≤ 5 := (dvV_bd C (A := 3) (d := 2) (by decide) (by decide) (by decide) (two_dvd 2 rfl) (by decide)).lq (k := 3) (m := 2) (by decide) (by decide) (by decide)
            have es : dwS (dwS C 3) 2 = dvS C 3 2 := rfl
            generalize dvV C 3 2 = w at *
            have x1 := lq_mul p w
            have w4 := r_lmul (n + 1) p w (by omega)
            have w5 := r_ladd (n + 1) q (p * w) (by omega)
            have w6 := r_ladd (n + 1) k w (by omega)
            have fl' : f.length + 1 ≤ 4096 := by omega
            by_cases hq : q + p * w ≤ 0
            · have pn' := pn hq
              have w7 : Φ (n + 4) 30 [fr (-2), fr p] = .ok (.val (fr (-2 * p)), []) := r_lmul (n + 1) (-2) p (by omega)
              rw [m2] at w7
              have x2 := lq_mul (-2) p
              have nz : -2 * p ≠ 0 := by grind
              have w8 := r_ldiv (n + 1) q (-2 * p) nz (by omega)
              have x3 := lq_div (a := q) nz
              have w9 := r_ladd (n + 1) k (q / (-2 * p)) (by omega)
              have w10 := r_lmul (n + 1) p (q / (-2 * p)) (by omega)
              have x4 := lq_mul p (q / (-2 * p))
              have w11 := r_ladd (n + 1) q (p * (q / (-2 * p))) (by omega)
              have e : ∀ X : Sv, ∃ a1' a2' : Sv, True := fun X => ⟨X, X, trivial⟩
              refine ⟨q / (-2 * p), .val (fr p), .val (fr (q / (-2 * p))), .inr ⟨rfl, hq⟩, ?_⟩
              generalize q / (-2 * p) = w' at *
              simp [w1, w2, w3, w4, w5, num_nonpos, hq, w7, w8, w9, w10, w11, es, fl', cn]
            · refine ⟨w, .val (fr p), .val (fr w), .inl ⟨rfl, hq⟩, ?_⟩
              simp [w1, w2, w3, w4, w5, w6, num_nonpos, hq, es, fl', cn])
          (fun C k q f a1 a2 kz qz fl => by
            have bn : back ≠ 0 := by grind
            have x1 := lq_div (a := q) bn
            have w1 := r_ldiv (n + 1) q back bn (by omega)
            have w2 := r_lsub (n + 1) k (q / back) (by omega)
            have fl' : f.length + 1 ≤ 4096 := by omega
            simp [w1, w2, fl', cn, fr_0])
  · have e9 := r_draw (n + 3) o6 (t := 3) (by omega) (by decide) (by decide)
    have o7 := o6.dw (t := 3) (by decide)
    generalize dwV C4 3 = v5 at e9
    generalize dwS C4 3 = C5 at e9 o7
    by_cases h5 : v5 = 0
    · subst h5
      have zb : Bd 48 528 0 := ⟨0, by rw [Rat.zero_divInt], by decide⟩
      simp [F37, startE, e1, e2, e3, e4, e5, e6, e7, u1, cutD_init, c1, e9, -for_cons, -for_nil]
      generalize hz : forD _ _ _ _ = z
      exact road_fin (m := m) (ps := [free, 0]) (b := back) ⟨by simp, by simp, by simp; exact ⟨free0, hb0⟩, by simpa using free0, by simpa using hb0, by simp; exact ⟨freeB, zb, backB⟩⟩ (C3 := C5) (o7.mono (by omega)) hz (fun C p k q f a1 a2 hC kz qz pz fl pn => by
              have w1 := r_draw (n + 3) hC (t := 3) (by omega) (by decide) (by decide)
              have w2 := r_draw (n + 3) (hC.dw (t := 3) (by decide)) (t := 2) (by omega) (by decide) (by decide)
              have w3 := r_dv (n + 2) (C := C) (i := 3) (j := 2) (by decide) (by decide) (by decide) (by decide)
              have wz : lq (dvV C 3 2) ≤ 5 := (dvV_bd C (A := 3) (d := 2) (by decide) (by decide) (by decide) (two_dvd 2 rfl) (by decide)).lq (k := 3) (m := 2) (by decide) (by decide) (by decide)
              have es : dwS (dwS C 3) 2 = dvS C 3 2 := rfl
              generalize dvV C 3 2 = w at *
              have x1 := lq_mul p w
              have w4 := r_lmul (n + 1) p w (by omega)
              have w5 := r_ladd (n + 1) q (p * w) (by omega)
              have w6 := r_ladd (n + 1) k w (by omega)
              have fl' : f.length + 1 ≤ 4096 := by omega
              by_cases hq : q + p * w ≤ 0
              · have pn' := pn hq
                have w7 : Φ (n + 4) 30 [fr (-2), fr p] = .ok (.val (fr (-2 * p)), []) := r_lmul (n + 1) (-2) p (by omega)
                rw [m2] at w7
                have x2 := lq_mul (-2) p
                have nz : -2 * p ≠ 0 := by grind
                have w8 := r_ldiv (n + 1) q (-2 * p) nz (by omega)
                have x3 := lq_div (a := q) nz
                have w9 := r_ladd (n + 1) k (q / (-2 * p)) (by omega)
                have w10 := r_lmul (n + 1) p (q / (-2 * p)) (by omega)
                have x4 := lq_mul p (q / (-2 * p))
                have w11 := r_ladd (n + 1) q (p * (q / (-2 * p))) (by omega)
                have e : ∀ X : Sv, ∃ a1' a2' : Sv, True := fun X => ⟨X, X, trivial⟩
                refine ⟨q / (-2 * p), .val (fr p), .val (fr (q / (-2 * p))), .inr ⟨rfl, hq⟩, ?_⟩
                generalize q / (-2 * p) = w' at *
                simp [w1, w2, w3, w4, w5, num_nonpos, hq, w7, w8, w9, w10, w11, es, fl', cn]
              · refine ⟨w, .val (fr p), .val (fr w), .inl ⟨rfl, hq⟩, ?_⟩
                simp [w1, w2, w3, w4, w5, w6, num_nonpos, hq, es, fl', cn])
            (fun C k q f a1 a2 kz qz fl => by
              have bn : back ≠ 0 := by grind
              have x1 := lq_div (a := q) bn
              have w1 := r_ldiv (n + 1) q back bn (by omega)
              have w2 := r_lsub (n + 1) k (q / back) (by omega)
              have fl' : f.length + 1 ≤ 4096 := by omega
              simp [w1, w2, fl', cn, fr_0])
    · simp [F37, startE, e1, e2, e3, e4, e5, e6, e7, u1, cutD_init, c1, e9, h5, -for_cons, -for_nil]
      generalize hz : forD _ _ _ _ = z
      exact road_fin (m := m) (ps := [free, (free + Rat.divInt (1 + v3) 8 * (back - free))]) (b := back) ⟨by simp, by simp, by simp; exact ⟨t1, t2⟩, by simpa using free0, by simpa using hb0, by simp; exact ⟨freeB, u2, backB⟩⟩ (C3 := C5) (o7.mono (by omega)) hz (fun C p k q f a1 a2 hC kz qz pz fl pn => by
              have w1 := r_draw (n + 3) hC (t := 3) (by omega) (by decide) (by decide)
              have w2 := r_draw (n + 3) (hC.dw (t := 3) (by decide)) (t := 2) (by omega) (by decide) (by decide)
              have w3 := r_dv (n + 2) (C := C) (i := 3) (j := 2) (by decide) (by decide) (by decide) (by decide)
              have wz : lq (dvV C 3 2) ≤ 5 := (dvV_bd C (A := 3) (d := 2) (by decide) (by decide) (by decide) (two_dvd 2 rfl) (by decide)).lq (k := 3) (m := 2) (by decide) (by decide) (by decide)
              have es : dwS (dwS C 3) 2 = dvS C 3 2 := rfl
              generalize dvV C 3 2 = w at *
              have x1 := lq_mul p w
              have w4 := r_lmul (n + 1) p w (by omega)
              have w5 := r_ladd (n + 1) q (p * w) (by omega)
              have w6 := r_ladd (n + 1) k w (by omega)
              have fl' : f.length + 1 ≤ 4096 := by omega
              by_cases hq : q + p * w ≤ 0
              · have pn' := pn hq
                have w7 : Φ (n + 4) 30 [fr (-2), fr p] = .ok (.val (fr (-2 * p)), []) := r_lmul (n + 1) (-2) p (by omega)
                rw [m2] at w7
                have x2 := lq_mul (-2) p
                have nz : -2 * p ≠ 0 := by grind
                have w8 := r_ldiv (n + 1) q (-2 * p) nz (by omega)
                have x3 := lq_div (a := q) nz
                have w9 := r_ladd (n + 1) k (q / (-2 * p)) (by omega)
                have w10 := r_lmul (n + 1) p (q / (-2 * p)) (by omega)
                have x4 := lq_mul p (q / (-2 * p))
                have w11 := r_ladd (n + 1) q (p * (q / (-2 * p))) (by omega)
                have e : ∀ X : Sv, ∃ a1' a2' : Sv, True := fun X => ⟨X, X, trivial⟩
                refine ⟨q / (-2 * p), .val (fr p), .val (fr (q / (-2 * p))), .inr ⟨rfl, hq⟩, ?_⟩
                generalize q / (-2 * p) = w' at *
                simp [w1, w2, w3, w4, w5, num_nonpos, hq, w7, w8, w9, w10, w11, es, fl', cn]
              · refine ⟨w, .val (fr p), .val (fr w), .inl ⟨rfl, hq⟩, ?_⟩
                simp [w1, w2, w3, w4, w5, w6, num_nonpos, hq, es, fl', cn])
            (fun C k q f a1 a2 kz qz fl => by
              have bn : back ≠ 0 := by grind
              have x1 := lq_div (a := q) bn
              have w1 := r_ldiv (n + 1) q back bn (by omega)
              have w2 := r_lsub (n + 1) k (q / back) (by omega)
              have fl' : f.length + 1 ≤ 4096 := by omega
              simp [w1, w2, fl', cn, fr_0])
  · obtain ⟨u3, u4⟩ := mid (1 + v3 + 1 + v4) (by omega) (by omega)
    have t3 := fall (1 + v3) (1 + v3 + 1 + v4) (by omega)
    have t4 := bot (1 + v3 + 1 + v4) (by omega)
    simp [F37, startE, e1, e2, e3, e4, e5, e6, e7, u1, cutD_init, c2, u3, -for_cons, -for_nil]
    generalize hz : forD _ _ _ _ = z
    exact road_fin (m := m) (ps := [free, (free + Rat.divInt (1 + v3) 8 * (back - free)), (free + Rat.divInt (1 + v3 + 1 + v4) 8 * (back - free))]) (b := back) ⟨by simp, by simp, by simp; exact ⟨t1, t3, t4⟩, by simpa using free0, by simpa using hb0, by simp; exact ⟨freeB, u2, u4, backB⟩⟩ (C3 := C4) (o6.mono (by omega)) hz (fun C p k q f a1 a2 hC kz qz pz fl pn => by
            have w1 := r_draw (n + 3) hC (t := 3) (by omega) (by decide) (by decide)
            have w2 := r_draw (n + 3) (hC.dw (t := 3) (by decide)) (t := 2) (by omega) (by decide) (by decide)
            have w3 := r_dv (n + 2) (C := C) (i := 3) (j := 2) (by decide) (by decide) (by decide) (by decide)
            have wz : lq (dvV C 3 2) ≤ 5 := (dvV_bd C (A := 3) (d := 2) (by decide) (by decide) (by decide) (two_dvd 2 rfl) (by decide)).lq (k := 3) (m := 2) (by decide) (by decide) (by decide)
            have es : dwS (dwS C 3) 2 = dvS C 3 2 := rfl
            generalize dvV C 3 2 = w at *
            have x1 := lq_mul p w
            have w4 := r_lmul (n + 1) p w (by omega)
            have w5 := r_ladd (n + 1) q (p * w) (by omega)
            have w6 := r_ladd (n + 1) k w (by omega)
            have fl' : f.length + 1 ≤ 4096 := by omega
            by_cases hq : q + p * w ≤ 0
            · have pn' := pn hq
              have w7 : Φ (n + 4) 30 [fr (-2), fr p] = .ok (.val (fr (-2 * p)), []) := r_lmul (n + 1) (-2) p (by omega)
              rw [m2] at w7
              have x2 := lq_mul (-2) p
              have nz : -2 * p ≠ 0 := by grind
              have w8 := r_ldiv (n + 1) q (-2 * p) nz (by omega)
              have x3 := lq_div (a := q) nz
              have w9 := r_ladd (n + 1) k (q / (-2 * p)) (by omega)
              have w10 := r_lmul (n + 1) p (q / (-2 * p)) (by omega)
              have x4 := lq_mul p (q / (-2 * p))
              have w11 := r_ladd (n + 1) q (p * (q / (-2 * p))) (by omega)
              have e : ∀ X : Sv, ∃ a1' a2' : Sv, True := fun X => ⟨X, X, trivial⟩
              refine ⟨q / (-2 * p), .val (fr p), .val (fr (q / (-2 * p))), .inr ⟨rfl, hq⟩, ?_⟩
              generalize q / (-2 * p) = w' at *
              simp [w1, w2, w3, w4, w5, num_nonpos, hq, w7, w8, w9, w10, w11, es, fl', cn]
            · refine ⟨w, .val (fr p), .val (fr w), .inl ⟨rfl, hq⟩, ?_⟩
              simp [w1, w2, w3, w4, w5, w6, num_nonpos, hq, es, fl', cn])
          (fun C k q f a1 a2 kz qz fl => by
            have bn : back ≠ 0 := by grind
            have x1 := lq_div (a := q) bn
            have w1 := r_ldiv (n + 1) q back bn (by omega)
            have w2 := r_lsub (n + 1) k (q / back) (by omega)
            have fl' : f.length + 1 ≤ 4096 := by omega
            simp [w1, w2, fl', cn, fr_0])

end K04

end

section
set_option maxHeartbeats 1000000
namespace K04
open PySem PySem.Spec PyProof.Rows L2 Mp
theorem r_long (n : Nat) {C : Ck} {m M : Int} {j : Nat} (hM : M = ((j : Nat) : Int) + 1) (h : C.ok m) (hm : m ≤ 10000) (h1 : 4 ≤ j) (h2 : j ≤ 11) : ∃ (L : List (Rat × Rat)) (C' : Ck), Φ (n + 4) 38 [.list C.l, .int M] = .ok (.val (KD L), C'.l) ∧ RoadOk L ∧ C'.ok (m + 30) := by
  rw [at_ (F := F38) rfl rfl rfl]
  have e1 := r_small n h (by omega)
  have o1 : (dvS C 4 2).ok (m + 2) := dvS_ok h (by decide) (by decide)
  have e2 := r_small n o1 (by omega)
  have o2 : (dvS (dvS C 4 2) 4 2).ok (m + 4) := (dvS_ok o1 (by decide) (by decide)).mono (by omega)
  have w0 := dvV_pos C (i := 4) (j := 2) (by decide) (by decide)
  have t0 := dvV_pos (dvS C 4 2) (i := 4) (j := 2) (by decide) (by decide)
  have wb : Bd 2 8 (dvV C 4 2) := dvV_bd C (A := 4) (by decide) (by decide) (by decide) (two_dvd 2 rfl) (by decide)
  have tb : Bd 2 8 (dvV (dvS C 4 2) 4 2) := dvV_bd (dvS C 4 2) (A := 4) (by decide) (by decide) (by decide) (two_dvd 2 rfl) (by decide)
  generalize dvV C 4 2 = w at *
  generalize dvV (dvS C 4 2) 4 2 = t at *
  refine ⟨lgL j w t, dvS (dvS C 4 2) 4 2, ?_, lg_road h1 h2 w0 t0 wb tb, o2.mono (by omega)⟩
  have wz := wb.lq (k := 4) (m := 2) (by decide) (by decide) (by decide)
  have tz := tb.lq (k := 4) (m := 2) (by decide) (by decide) (by decide)
  simp [F38, startE, e1, e2, -comp_told]
  rw [comp_each (List.range (j + 1)) (fun k => .int (k : Nat)) (fun k => cn (lgC j w t k))]
  · simp [lgL, Function.comp_def]
  · simp [-rng1R_int]
    exact rng1R_nat (by omega) (by omega) _
  · simp; omega
  · intro k hk
    have hk := List.mem_range.mp hk
    have kb := lg_nat (i := (k : Nat)) (B := 11) (k := 4) (by omega) (by decide)
    have mb := lg_nat (i := ((j : Nat) : Int) - (k : Nat)) (B := 11) (k := 4) (by omega) (by decide)
    have m0 := bin_mulL (i := (k : Nat)) (j := ((j : Nat) : Int) - (k : Nat)) (by omega)
    have mb2 := lg_mul (k : Nat) (((j : Nat) : Int) - (k : Nat))
    have one : lg 1 = 1 := by decide
    have lw := lu_of w
    have lt := lu_of t
    have g1 : Φ (n + 3) 30 [fr w, .tuple [.int (k : Nat), .int 1]] = .ok (.val (fr (w * ((k : Nat) : Rat))), []) := by
      have := r_lmulU n (U.of w) ⟨(k : Nat), 1, by decide⟩ (by rw [lw]; unfold lu; simp only; omega)
      rw [val_of] at this
      have e : (U.mk (k : Nat) 1 (by decide)).val = ((k : Nat) : Rat) := by
        exact cast_k k
      rw [e] at this
      exact this
    have g2 : Φ (n + 3) 30 [fr t, .tuple [.int ((k : Nat) * (((j : Nat) : Int) - (k : Nat))), .int 1]] = .ok (.val (fr (t * (((k : Nat) : Rat) * ((j : Rat) - ((k : Nat) : Rat))))), []) := by
      have := r_lmulU n (U.of t) ⟨(k : Nat) * (((j : Nat) : Int) - (k : Nat)), 1, by decide⟩ (by rw [lt]; unfold lu; simp only; omega)
      rw [val_of] at this
      have e : (U.mk ((k : Nat) * (((j : Nat) : Int) - (k : Nat))) 1 (by decide)).val = ((k : Nat) : Rat) * ((j : Rat) - ((k : Nat) : Rat)) := by
        exact cast_e k j
      rw [e] at this
      exact this
    have s1 : binD .sub (.int M) (.int 1) = some (.val (.int (j : Nat))) := by
      rw [bin_sub]
      have : M - 1 = (j : Nat) := by omega
      rw [this]
    have s2 : binD .sub (.int (j : Nat)) (.int (k : Nat)) = some (.val (.int (((j : Nat) : Int) - (k : Nat)))) := rfl
    simp [g1, g2, m0, KeptE, s1, s2, -bin_sub]
    simp [cn, lgC]

end K04

end

section
set_option maxHeartbeats 1000000
namespace K04
open PySem PySem.Spec PyProof.Rows L2 Mp
/-! ### drawn fractions -/
theorem r_fraction (n : Nat) {C : Ck} {m : Int} (h : C.ok m) (hm : m ≤ 900000) : ∃ (q : Rat) (C' : Ck), Φ (n + 3) 35 [.list C.l] = .ok (.val (fr q), C'.l) ∧ ln q ≤ 10 ∧ ld q ≤ 10 ∧ Bd 60 720 q ∧ C'.ok (m + 3) := by
  rw [at_ (F := F35) rfl rfl rfl]
  have e1 := r_draw (n + 1) h (t := 25) (by omega) (by decide) (by decide)
  have o1 := h.dw (t := 25) (by decide)
  have a1 := dwV_lo C (t := 25) (by decide)
  have a2 := dwV_hi C (t := 25) (by decide)
  generalize dwV C 25 = v at *
  generalize dwS C 25 = C1 at *
  have e2 := r_pick n (C := C1) (ds := [.int 1, .int 2, .int 5]) o1 (by omega) (by decide) (by decide)
  have b1 := dwV_lo C1 (t := 3) (by decide)
  have b2 := dwV_hi C1 (t := 3) (by decide)
  have o2 := o1.dw (t := 3) (by decide)
  rw [show ((([.int 1, .int 2, .int 5] : List D).length : Nat) : Int) = 3 from rfl] at e2
  obtain ⟨t, ht, t0, t1⟩ : ∃ t : Int, ([.int 1, .int 2, .int 5] : List D).getD (dwV C1 3).toNat .none = .int t ∧ 0 < t ∧ t ≤ 5 := by
    have : dwV C1 3 = 0 ∨ dwV C1 3 = 1 ∨ dwV C1 3 = 2 := by omega
    rcases this with z | z | z <;> rw [z]
    · exact ⟨1, rfl, by decide, by decide⟩
    · exact ⟨2, rfl, by decide, by decide⟩
    · exact ⟨5, rfl, by decide, by decide⟩
  rw [ht] at e2
  generalize dwS C1 3 = C2 at *
  have e3 := r_draw (n + 1) o2 (t := t) (by omega) t0 (by omega)
  have d1 := dwV_lo C2 t0
  have d2 := dwV_hi C2 t0
  have o3 := o2.dw t0
  generalize dwV C2 t = w at *
  generalize dwS C2 t = C3 at *
  have lw := lg_nat (i := 1 + w) (B := 7) (k := 3) (by omega) (by decide)
  have lv := lg_nat (i := v - 12) (B := 31) (k := 5) (by omega) (by decide)
  have e4 := r_frac n (v - 12) (1 + w) (by omega) (by omega)
  have z := nd_divInt (t := v - 12) (b := 1 + w) (by omega)
  have bd : Bd 60 (12 * 60) (Rat.divInt (v - 12) (1 + w)) := Bd.of (by omega) (by
    have : w = 0 ∨ w = 1 ∨ w = 2 ∨ w = 3 ∨ w = 4 := by omega
    rcases this with z | z | z | z | z <;> rw [z] <;> decide) (by omega) (by decide)
  refine ⟨Rat.divInt (v - 12) (1 + w), C3, ?_, by omega, by omega, bd, o3.mono (by omega)⟩
  simp [F35, startE, e1, e2, e3, e4]
theorem r_laddU (n : Nat) (u v : U) (h : lu u + lu v ≤ 9000) : Φ (n + 3) 28 [ud u, ud v] = .ok (.val (fr (u.val + v.val)), []) := by
  rw [at_ (F := F28) rfl rfl rfl]
  have e := r_frac n (u.a * v.b + v.a * u.b) (u.b * v.b) (by have := Int.mul_pos u.pos v.pos; omega) (by unfold lu at h; have := lg_mul u.b v.b; omega)
  have ev : Rat.divInt (u.a * v.b + v.a * u.b) (u.b * v.b) = u.val + v.val := by rw [← val_add]; rfl
  rw [ev] at e
  unfold lu at h
  simp [F28, outD_none, startE, bin_mulL (i := u.a) (j := v.b) (by omega), bin_mulL (i := v.a) (j := u.b) (by omega), bin_mulL (i := u.b) (j := v.b) (by omega), e]
theorem r_lsubU (n : Nat) (u v : U) (h : lu u + lu v ≤ 9000) : Φ (n + 3) 29 [ud u, ud v] = .ok (.val (fr (u.val - v.val)), []) := by
  rw [at_ (F := F29) rfl rfl rfl]
  have e := r_frac n (u.a * v.b - v.a * u.b) (u.b * v.b) (by have := Int.mul_pos u.pos v.pos; omega) (by unfold lu at h; have := lg_mul u.b v.b; omega)
  have ev : Rat.divInt (u.a * v.b - v.a * u.b) (u.b * v.b) = u.val - v.val := by rw [← val_sub]; rfl
  rw [ev] at e
  unfold lu at h
  simp [F29, outD_none, startE, bin_mulL (i := u.a) (j := v.b) (by omega), bin_mulL (i := v.a) (j := u.b) (by omega), bin_mulL (i := u.b) (j := v.b) (by omega), e]

end K04

end

section
set_option maxHeartbeats 1000000
namespace K04
open PySem PySem.Spec PyProof.Rows L2 Mp
/-! ### tolls of steps: the program -/
theorem r_content1 (n : Nat) (x : Rat) : Φ (n + 4) 11 [fr x] = .ok (.val (.bool (decide (0 ≤ x))), []) := by
  rw [at_ (F := F11) rfl rfl rfl]
  by_cases h : 0 ≤ x
  · have : 0 ≤ x.num := Rat.num_nonneg.mpr h
    simp [F11, outD_none, startE, r_is_fr, this, h]
  · have : ¬ 0 ≤ x.num := fun z => h (Rat.num_nonneg.mp z)
    simp [F11, outD_none, startE, r_is_fr, this, h]
theorem r_check_fraction (n : Nat) (x : Rat) : Φ (n + 4) 13 [fr x] = .ok (.val .none, []) := by
  rw [at_ (F := F13) rfl rfl rfl]
  simp [F13, outD_none, startE, r_is_fr]
theorem r_check_content (n : Nat) (x : Rat) (h : 0 ≤ x) : Φ (n + 5) 14 [fr x] = .ok (.val .none, []) := by
  rw [at_ (F := F14) rfl rfl rfl]
  simp [F14, outD_none, startE, r_content1, h]
theorem r_toll_byG (n : Nat) {L : List (Rat × Rat)} {v t : Rat} (h : VK L) (hs : ∀ c ∈ L, lc c ≤ 200) (hv : lq v ≤ 1500) (ht : lq t ≤ 900) (t0 : 0 ≤ t) : Φ (n + 6) 20 [KD L, fr v, fr t] = .ok (.val (optD (if letsR L v t then some (tollR L v t) else none)), []) := by
  rw [at_ (F := F20) rfl rfl rfl]
  obtain ⟨c, l, e1⟩ := h.fst
  obtain ⟨a, d, e2⟩ := h.lst2
  have f1 := VK.first_iff (c := c) (l := l) (by rw [← e1]; exact h) (dx := v) (dt := t)
  rw [← e1] at f1
  have f2 := VK.last_iff (a := a) (d := d) (f := full L) (by rw [← e2]; exact h) (dx := v) (dt := t)
  rw [← e2] at f2
  generalize hf : full L = f at e2 f2
  have md : d ∈ L := by rw [e2]; simp
  have mf : (f, 0) ∈ L := by rw [e2]; simp
  have mc : c ∈ L := by rw [e1]; simp
  have sd := hs d md
  have sf := hs _ mf
  have sc := hs c mc
  unfold lc at sd sf sc
  simp only at sf
  have o0 : lq 0 ≤ 2 := by decide
  have i1 : ixD (L.map cn) 1 = some (cn c) := by rw [e1]; simp
  have i2 : ixD (L.map cn) (-1) = some (cn (f, 0)) := by rw [e2]; exact ixD_m1 (by simp)
  have i3 : ixD (L.map cn) (-2) = some (cn d) := by rw [e2]; simpa using ixD_m2 (a.map cn) (cn d) (cn (f, 0))
  have g1 := r_times n c.2 t (by omega)
  have g2 := r_times n c.1 v (by omega)
  have z2 := lq_mul c.1 v
  have z1 := lq_mul c.2 t
  have g3 := r_lt (n + 4) (c.2 * t) (c.1 * v) (by omega)
  have g4 := r_minus n f d.1 (by omega)
  have z4 := lq_sub f d.1
  have g5 := r_times n (f - d.1) v (by omega)
  have z5 := lq_mul (f - d.1) v
  have g6 := r_minus n 0 d.2 (by omega)
  have z6 := lq_sub 0 d.2
  have g7 := r_times n (0 - d.2) t (by omega)
  have z7 := lq_mul (0 - d.2) t
  have g8 := r_lt (n + 4) ((f - d.1) * v) ((0 - d.2) * t) (by omega)
  have tn : ¬ t.num < 0 := by have := Rat.num_nonneg.mpr t0; omega
  simp only [fr_0] at g6
  by_cases n1 : c.2 * t < c.1 * v
  · rw [decide_eq_true n1] at g3
    have nl : ¬ letsR L v t := fun z => f1.mp n1 z.2.2
    rw [if_neg nl]
    simp only [F20]
    simp (config := { implicitDefEqProofs := false }) [outD_none, startE, i1, cn, g1, g2, g3, tn, optD]
  rw [decide_eq_false n1] at g3
  by_cases n2 : (f - d.1) * v < (0 - d.2) * t
  · rw [decide_eq_true n2] at g8
    have nl : ¬ letsR L v t := fun z => f2.mp n2 z.2.1
    rw [if_neg nl]
    simp only [F20]
    simp (config := { implicitDefEqProofs := false }) [outD_none, startE, i1, i2, i3, cn, fr_0, g1, g2, g3, g4, g5, g6, g7, g8, tn, optD]
  rw [decide_eq_false n2] at g8
  have nl : letsR L v t := ⟨t0, Classical.byContradiction fun z => n2 (f2.mpr z), Classical.byContradiction fun z => n1 (f1.mpr z)⟩
  rw [if_pos nl]
  simp only [F20]
  simp (config := { implicitDefEqProofs := false }) [outD_none, startE, i1, i2, i3, cn, fr_0, g1, g2, g3, g4, g5, g6, g7, g8, tn, -for_cons, -for_nil]
  generalize hz : forD _ _ _ _ = z
  have key := for_at (α := Rat × Rat) (f := cn) (fun done σ => ∃ f a1 a2 a3, σ = [.val (KD L), .val (fr v), .val (fr t), f, a1, a2, a3] ∧ (done = [] ∧ f = .val .none ∨ done ≠ [] ∧ f = .val (fr (done.foldl (tlR v t) 0)) ∧ lq (done.foldl (tlR v t) 0) ≤ 8000)) L (l := L) (done := []) rfl hz
    ⟨_, _, _, _, rfl, .inl ⟨rfl, rfl⟩⟩ (fun done x rst σ hL ⟨f, a1, a2, a3, e, hf⟩ => by
      subst e
      have sx := hs x (by rw [hL]; simp)
      unfold lc at sx
      have y1 := r_times n x.2 t (by omega)
      have y2 := r_times n x.1 v (by omega)
      have w1 := lq_mul x.2 t
      have w2 := lq_mul x.1 v
      have y3 := r_minus n (x.2 * t) (x.1 * v) (by omega)
      have w3 := lq_sub (x.2 * t) (x.1 * v)
      rcases hf with ⟨rfl, rfl⟩ | ⟨hd, rfl, sz⟩
      · have ex : x = (0, 0) := by
          rw [e1] at hL
          exact (List.cons.inj hL).1.symm
        have q0 : tlR v t 0 x = 0 := by
          rw [ex]
          unfold tlR
          grind
        have q1 : x.2 * t - x.1 * v = 0 := by
          rw [ex]
          grind
        refine ⟨[.val (KD L), .val (fr v), .val (fr t), .val (fr (x.2 * t - x.1 * v)), .val (fr x.1), .val (fr x.2), .val (fr (x.2 * t - x.1 * v))], ?_, _, _, _, _, rfl, .inr ⟨by simp, ?_, ?_⟩⟩
        · simp (config := { implicitDefEqProofs := false }) [cn, y1, y2, y3]
        · rw [q1]
          simp [q0]
        · simp [q0]
          decide
      · generalize hb : done.foldl (tlR v t) 0 = b at *
        have y4 := r_lt (n + 4) b (x.2 * t - x.1 * v) (by omega)
        have eb : (done ++ [x]).foldl (tlR v t) 0 = if b < x.2 * t - x.1 * v then x.2 * t - x.1 * v else b := by
          rw [List.foldl_append, hb]
          show tlR v t b x = _
          unfold tlR
          by_cases hc : b < x.2 * t - x.1 * v
          · rw [if_pos hc, if_pos (by grind)]
          · rw [if_neg hc, if_neg (by grind)]
        rw [eb]
        refine ⟨[.val (KD L), .val (fr v), .val (fr t), .val (fr (if b < x.2 * t - x.1 * v then x.2 * t - x.1 * v else b)), .val (fr x.1), .val (fr x.2), .val (fr (x.2 * t - x.1 * v))], ?_, _, _, _, _, rfl, .inr ⟨by simp, rfl, by split <;> omega⟩⟩
        by_cases hc : b < x.2 * t - x.1 * v
        · simp (config := { implicitDefEqProofs := false }) [cn, y1, y2, y3, y4, hc]
        · simp (config := { implicitDefEqProofs := false }) [cn, y1, y2, y3, y4, hc])
  obtain ⟨σ, rfl, f', a1, a2, a3, rfl, hf'⟩ := key
  rcases hf' with ⟨z, _⟩ | ⟨_, rfl, _⟩
  · rw [z] at e1
    cases e1
  · simp [optD]
    rfl
theorem r_toll (n : Nat) {L : List (Rat × Rat)} {v t : Rat} (h : VK L) (hs : ∀ c ∈ L, lc c ≤ 200) (hv : lq v ≤ 1500) (ht : lq t ≤ 900) (t0 : 0 ≤ t) (hl : letsR L v t) : Φ (n + 10) 21 [KD L, fr v, fr t] = .ok (.val (fr (tollR L v t)), []) := by
  rw [at_ (F := F21) rfl rfl rfl]
  have e := r_toll_byG (n + 3) h hs hv ht t0
  rw [if_pos hl] at e
  simp only [optD] at e
  simp [F21, outD_none, startE, r_check_kind n h hs, r_check_fraction, r_check_content (n + 4) t t0, e]
theorem r_tollX (n : Nat) {L : List (Rat × Rat)} {v t : Rat} (h : VK L) (hs : ∀ c ∈ L, lc c ≤ 200) (hv : lq v ≤ 1500) (ht : lq t ≤ 900) (t0 : 0 ≤ t) (hl : ¬ letsR L v t) : Φ (n + 10) 21 [KD L, fr v, fr t] = .ex ⟨"NoStep", none⟩ [] := by
  rw [at_ (F := F21) rfl rfl rfl]
  have e := r_toll_byG (n + 3) h hs hv ht t0
  rw [if_neg hl] at e
  simp only [optD] at e
  simp [F21, outD_none, startE, r_check_kind n h hs, r_check_fraction, r_check_content (n + 4) t t0, e]
theorem r_toll_rateG (n : Nat) {L : List (Rat × Rat)} {v : Rat} (h : VK L) (hs : ∀ c ∈ L, lc c ≤ 200) (hv : lq v ≤ 1500) (hl : letsR L v 1) : Φ (n + 10) 22 [KD L, fr v] = .ok (.val (fr (tollR L v 1)), []) := by
  rw [at_ (F := F22) rfl rfl rfl]
  have e := r_toll_byG (n + 3) h hs hv (t := 1) (by decide) (by decide)
  rw [if_pos hl] at e
  simp only [optD, fr_1] at e
  simp [F22, outD_none, startE, r_check_kind n h hs, r_is_fr, e, fr_1]

end K04

end

section
set_option maxHeartbeats 1000000
namespace K04
open PySem PySem.Spec PyProof.Rows L2 Mp
/-! ### tolls of steps: the law -/
theorem ltoll_turn (n : Nat) {L : List (Rat × Rat)} {v t : Rat} {x : Rat × Rat} {u : U} (sx : lc x ≤ 200) (hv : lq v ≤ 1500) (ht : lq t ≤ 900) (hu : lu u ≤ 9000) (a1 a2 a3 a4 : Sv) :
    ∃ (w : U) (b3 b4 : Sv), w.val = tlR v t u.val x ∧ (lu w ≤ lu u ∨ lu w ≤ 8500) ∧ fb (Sx none (n + 2)) (forT (nthS F40.body 1)) (forB (nthS F40.body 1)) (cn x) [.val (KD L), .val (fr v), .val (fr t), .val (ud u), a1, a2, a3, a4] =
      .ok (.nx, [.val (KD L), .val (fr v), .val (fr t), .val (ud w), .val (fr x.1), .val (fr x.2), b3, b4]) := by
  unfold lc at sx
  have l1 := lq_n x.1
  have l2 := lq_n x.2
  have l3 := lq_n v
  have l4 := lq_n t
  have k1 := lq_d x.1
  have k2 := lq_d x.2
  have k3 := lq_d v
  have k4 := lq_d t
  have d1 := den_pos x.1
  have d2 := den_pos x.2
  have d3 := den_pos v
  have d4 := den_pos t
  have p1 := lg_mul x.2.num t.num
  have p2 := lg_mul (x.2.num * t.num) (x.1.den : Nat)
  have p3 := lg_mul (x.2.num * t.num * (x.1.den : Nat)) (v.den : Nat)
  have q1 := lg_mul x.1.num v.num
  have q2 := lg_mul (x.1.num * v.num) (x.2.den : Nat)
  have q3 := lg_mul (x.1.num * v.num * (x.2.den : Nat)) (t.den : Nat)
  have r1 := lg_mul (x.2.den : Nat) (t.den : Nat)
  have r2 := lg_mul ((x.2.den : Nat) * (t.den : Nat)) (x.1.den : Nat)
  have r3 := lg_mul ((x.2.den : Nat) * (t.den : Nat) * (x.1.den : Nat)) (v.den : Nat)
  have o1 := lg_sub (x.2.num * t.num * (x.1.den : Nat) * (v.den : Nat)) (x.1.num * v.num * (x.2.den : Nat) * (t.den : Nat))
  have m1 := bin_mulL (i := x.2.num) (j := t.num) (by omega)
  have m2 := bin_mulL (i := x.2.num * t.num) (j := (x.1.den : Nat)) (by omega)
  have m3 := bin_mulL (i := x.2.num * t.num * (x.1.den : Nat)) (j := (v.den : Nat)) (by omega)
  have m4 := bin_mulL (i := x.1.num) (j := v.num) (by omega)
  have m5 := bin_mulL (i := x.1.num * v.num) (j := (x.2.den : Nat)) (by omega)
  have m6 := bin_mulL (i := x.1.num * v.num * (x.2.den : Nat)) (j := (t.den : Nat)) (by omega)
  have m7 := bin_mulL (i := (x.2.den : Nat)) (j := (t.den : Nat)) (by omega)
  have m8 := bin_mulL (i := (x.2.den : Nat) * (t.den : Nat)) (j := (x.1.den : Nat)) (by omega)
  have m9 := bin_mulL (i := (x.2.den : Nat) * (t.den : Nat) * (x.1.den : Nat)) (j := (v.den : Nat)) (by omega)
  have up : (0 : Int) < (x.2.den : Nat) * (t.den : Nat) * (x.1.den : Nat) * (v.den : Nat) := Int.mul_pos (Int.mul_pos (Int.mul_pos d2 d4) d1) d3
  obtain ⟨w, hw⟩ : ∃ w : U, w = ⟨x.2.num * t.num * (x.1.den : Nat) * (v.den : Nat) - x.1.num * v.num * (x.2.den : Nat) * (t.den : Nat), (x.2.den : Nat) * (t.den : Nat) * (x.1.den : Nat) * (v.den : Nat), up⟩ := ⟨_, rfl⟩
  have wv : w.val = x.2 * t - x.1 * v := by
    have e : w = ((U.of x.2).mul (U.of t)).sub ((U.of x.1).mul (U.of v)) := by
      rw [hw]
      unfold U.sub U.mul U.of
      simp only [U.mk.injEq]
      constructor
      · simp only [Int.mul_assoc]
      · simp only [Int.mul_assoc]
    rw [e]
    simp
  have wl : lu w ≤ 8500 := by
    rw [hw]
    unfold lu
    simp only
    omega
  have hwl := wl
  unfold lu at hwl hu
  have ca := bin_mulL (i := w.a) (j := u.b) (by omega)
  have cb := bin_mulL (i := u.a) (j := w.b) (by omega)
  have cmp : (u.a * w.b < w.a * u.b) ↔ u.val < w.val := by
    have h1 := (val_sgn (w.sub u)).1
    rw [val_sub] at h1
    have h2 : (w.sub u).a = w.a * u.b - u.a * w.b := rfl
    rw [h2] at h1
    constructor
    · intro h
      have := h1.mp (by omega)
      grind
    · intro h
      have := h1.mpr (by grind)
      omega
  have wa : w.a = x.2.num * t.num * (x.1.den : Nat) * (v.den : Nat) - x.1.num * v.num * (x.2.den : Nat) * (t.den : Nat) := by rw [hw]
  have wb : w.b = (x.2.den : Nat) * (t.den : Nat) * (x.1.den : Nat) * (v.den : Nat) := by rw [hw]
  rw [wa] at ca
  rw [wb] at cb
  rw [wa, wb] at cmp
  by_cases hc : u.val < w.val
  · refine ⟨w, .val (.int w.a), .val (.int w.b), ?_, .inr wl, ?_⟩
    · unfold tlR
      rw [if_pos (by grind), wv]
    · have hc := cmp.mpr hc
      have ew : ud w = .tuple [.int w.a, .int w.b] := rfl
      rw [ew, wa, wb]
      simp only [nthS, forT, forB, F40]
      simp (config := { implicitDefEqProofs := false }) [cn, m1, m2, m3, m4, m5, m6, m7, m8, m9, ca, cb, hc]
  · refine ⟨u, .val (.int w.a), .val (.int w.b), ?_, .inl (Nat.le_refl _), ?_⟩
    · unfold tlR
      rw [if_neg (by grind)]
    · have hc : ¬ _ := fun z => hc (cmp.mp z)
      rw [wa, wb]
      simp only [nthS, forT, forB, F40]
      simp (config := { implicitDefEqProofs := false }) [cn, m1, m2, m3, m4, m5, m6, m7, m8, m9, ca, cb, hc]

end K04

end

section
set_option maxHeartbeats 1000000
namespace K04
open PySem PySem.Spec PyProof.Rows L2 Mp
theorem r_upto (n : Nat) (a b : Rat) (h : lq a + lq b ≤ 50000000) : Φ (n + 1) 33 [fr a, fr b] = .ok (.val (.bool (decide (a ≤ b))), []) := by
  rw [at_ (F := F33) rfl rfl rfl]
  unfold lq at h
  simp [F33, outD_none, startE, bin_mulL (i := a.num) (j := (b.den : Nat)) (by omega), bin_mulL (i := b.num) (j := (a.den : Nat)) (by omega), ← Rat.le_iff]
theorem r_ltoll (n : Nat) {L : List (Rat × Rat)} {v t : Rat} (hs : ∀ c ∈ L, lc c ≤ 200) (hv : lq v ≤ 1500) (ht : lq t ≤ 900) : Φ (n + 3) 40 [KD L, fr v, fr t] = .ok (.val (fr (tollR L v t)), []) := by
  rw [at_ (F := F40) rfl rfl rfl]
  simp only [F40]
  simp (config := { implicitDefEqProofs := false }) [outD_none, startE, -for_cons, -for_nil]
  generalize hz : forD _ _ _ _ = z
  have key := for_at (α := Rat × Rat) (f := cn) (fun done σ => ∃ (u : U) (a1 a2 a3 a4 : Sv), σ = [.val (KD L), .val (fr v), .val (fr t), .val (ud u), a1, a2, a3, a4] ∧ u.val = done.foldl (tlR v t) 0 ∧ lu u ≤ 8500) L (l := L) (done := []) rfl hz
    ⟨⟨0, 1, by decide⟩, _, _, _, _, rfl, by simp [U.val], by decide⟩ (fun done x rst σ hL ⟨u, a1, a2, a3, a4, e, hu, sz⟩ => by
      subst e
      obtain ⟨w, b3, b4, hw, lw, e⟩ := ltoll_turn n (L := L) (v := v) (t := t) (x := x) (u := u) (hs x (by rw [hL]; simp)) hv ht (by omega) a1 a2 a3 a4
      refine ⟨_, e, w, _, _, b3, b4, rfl, ?_, by omega⟩
      rw [List.foldl_append, ← hu, hw]
      rfl)
  obtain ⟨σ, rfl, u, a1, a2, a3, a4, rfl, hu, sz⟩ := key
  have e := r_frac n u.a u.b (by have := u.pos; omega) (by unfold lu at sz; omega)
  have e : Φ (n + 2) 27 [.int u.a, .int u.b] = .ok (.val (fr u.val), []) := e
  rw [hu] at e
  have eu : ud u = .tuple [.int u.a, .int u.b] := rfl
  simp [eu, e]
  rfl
theorem r_lrate (n : Nat) {L : List (Rat × Rat)} {v : Rat} (hs : ∀ c ∈ L, lc c ≤ 200) (hv : lq v ≤ 1500) : Φ (n + 4) 42 [KD L, fr v] = .ok (.val (fr (tollR L v 1)), []) := by
  rw [at_ (F := F42) rfl rfl rfl]
  have e := r_ltoll n (L := L) (v := v) (t := 1) hs hv (by decide)
  simp only [fr_1] at e
  simp [F42, outD_none, startE, e]
theorem r_lets (n : Nat) {s : List Rat} {v t : Rat} (hne : s ≠ []) (hs : ∀ x ∈ s, lq x ≤ 2000) (hv : lq v ≤ 1500) (ht : lq t ≤ 900) : Φ (n + 4) 41 [.list (s.map fr), fr v, fr t] = .ok (.val (.bool (decide (0 ≤ t ∧ s.getLastD 0 * t ≤ v ∧ v ≤ s.headD 0 * t))), []) := by
  rw [at_ (F := F41) rfl rfl rfl]
  obtain ⟨a, l, e⟩ := List.exists_cons_of_ne_nil hne
  have h1 : s.headD 0 ∈ s := by rw [e]; simp
  have h2 := getLastD_in hne 0
  have i0 : ixD (s.map fr) 0 = some (fr (s.headD 0)) := by rw [e]; simp
  have i1 : ixD (s.map fr) (-1) = some (fr (s.getLastD 0)) := by
    apply ixD_m1
    rw [List.getLast?_map, List.getLastD_eq_getLast?, List.getLast?_eq_some_getLast hne]
    rfl
  have z1 := hs _ h1
  have z2 := hs _ h2
  generalize s.headD 0 = p at *
  generalize s.getLastD 0 = q at *
  have m1 := lq_mul q t
  have m2 := lq_mul p t
  have e1 := r_lmul n q t (by omega)
  have e2 := r_lmul n p t (by omega)
  have e3 := r_upto (n + 2) (q * t) v (by omega)
  have e4 := r_upto (n + 2) v (p * t) (by omega)
  have tn : 0 ≤ t.num ↔ 0 ≤ t := Rat.num_nonneg
  simp only [F41]
  by_cases c1 : 0 ≤ t
  · have c1' := tn.mpr c1
    by_cases c2 : q * t ≤ v
    · rw [decide_eq_true c2] at e3
      simp (config := { implicitDefEqProofs := false }) [outD_none, startE, i0, i1, e1, e2, e3, e4, c1', c1, c2]
    · rw [decide_eq_false c2] at e3
      simp (config := { implicitDefEqProofs := false }) [outD_none, startE, i0, i1, e1, e2, e3, e4, c1', c1, c2]
  · have c1' : ¬ 0 ≤ t.num := fun z => c1 (tn.mp z)
    simp (config := { implicitDefEqProofs := false }) [outD_none, startE, i0, i1, e1, e2, e3, e4, c1', c1]
theorem r_told (n : Nat) {L : List (Rat × Rat)} {v t : Rat} (h : VK L) (hs : ∀ c ∈ L, lc c ≤ 200) (hv : lq v ≤ 1500) (ht : lq t ≤ 900) (t0 : 0 ≤ t) : Φ (n + 11) 44 [KD L, fr v, fr t] = .ok (.val (if letsR L v t then fr (tollR L v t) else .list [.str "no step", .bool true]), []) := by
  rw [at_ (F := F44) rfl rfl rfl]
  simp only [F44]
  by_cases hl : letsR L v t
  · have e := r_toll n h hs hv ht t0 hl
    rw [if_pos hl]
    simp (config := { implicitDefEqProofs := false }) [outD_none, startE, e]
  · have e := r_tollX n h hs hv ht t0 hl
    rw [if_neg hl]
    simp (config := { implicitDefEqProofs := false }) [outD_none, startE, e]
    rfl

end K04

end

section
set_option maxHeartbeats 1000000
namespace K04
open PySem PySem.Spec PyProof.Rows L2 Mp
theorem r_step (n : Nat) {L : List (Rat × Rat)} (hL : RoadOk L) {C : Ck} {m : Int} (hC : C.ok m) (hm : m ≤ 9000) : ∃ (dx dt : Rat) (C' : Ck), Φ (n + 5) 43 [.list C.l, .list ((slopes L).map fr)] = .ok (.val (.tuple [fr dx, fr dt]), C'.l) ∧ letsR L dx dt ∧ 0 ≤ dt ∧ lq dx ≤ 226 ∧ lq dt ≤ 7 ∧ C'.ok (m + 8) := by
  rw [at_ (F := F43) rfl rfl rfl]
  have vk := hL.vk
  have sl := slopes_length L
  have len1 := vk.len
  have len2 := vk.len2
  have hne : slopes L ≠ [] := fun z => by rw [z] at sl; simp at sl; omega
  have ends := sorted_ends (slopes L) vk.dec
  obtain ⟨a, l, e⟩ := List.exists_cons_of_ne_nil hne
  have i0 : ixD ((slopes L).map fr) 0 = some (fr ((slopes L).headD 0)) := by rw [e]; simp
  have i1 : ixD ((slopes L).map fr) (-1) = some (fr ((slopes L).getLastD 0)) := by
    apply ixD_m1
    rw [List.getLast?_map, List.getLastD_eq_getLast?, List.getLast?_eq_some_getLast hne]
    rfl
  have hp : (slopes L).headD 0 ∈ slopes L := by rw [e]; simp
  have hq := getLastD_in hne 0
  have zp := hL.sp _ hp
  have zq := hL.sp _ hq
  have le := (ends _ hp).2
  have e1 := r_draw (n + 3) hC (t := 13) (by omega) (by decide) (by decide)
  have o1 := hC.dw (t := 13) (by decide)
  have b1 := dwV_lo C (t := 13) (by decide)
  have b2 := dwV_hi C (t := 13) (by decide)
  generalize dwV C 13 = w at *
  generalize dwS C 13 = C1 at *
  have lw := lg_nat (i := w) (B := 15) (k := 4) (by omega) (by decide)
  have l12 : lg 12 = 4 := by decide
  obtain ⟨u, hu⟩ : ∃ u : U, u = ⟨w, 12, by decide⟩ := ⟨_, rfl⟩
  have ul : lu u ≤ 8 := by rw [hu]; unfold lu; simp only; omega
  have u0 : 0 ≤ u.val := by rw [hu]; exact val_nonneg.mpr b1
  have u1 : u.val ≤ 1 := by
    have e12 : u.val * 12 = w := by
      rw [hu]
      show Rat.divInt w 12 * 12 = w
      rw [Rat.divInt_eq_div]
      have : ((12 : Int) : Rat) ≠ 0 := by decide
      have h12 : ((12 : Int) : Rat) = 12 := rfl
      rw [h12]
      exact (of_div (a := (w : Rat)) (b := 12) (by decide) rfl).symm
    have : (w : Rat) ≤ 12 := by
      have : w ≤ 12 := by omega
      exact_mod_cast this
    grind
  have e2 := r_partU n ((slopes L).getLastD 0) ((slopes L).headD 0) u (by omega)
  have eu : ud u = .tuple [.int w, .int 12] := by rw [hu]; rfl
  rw [eu] at e2
  have s1 := lq_val u
  have s2 := lq_sub ((slopes L).headD 0) ((slopes L).getLastD 0)
  have s3 := lq_mul u.val ((slopes L).headD 0 - (slopes L).getLastD 0)
  have s4 := lq_add ((slopes L).getLastD 0) (u.val * ((slopes L).headD 0 - (slopes L).getLastD 0))
  have in1 : (slopes L).getLastD 0 ≤ (slopes L).getLastD 0 + u.val * ((slopes L).headD 0 - (slopes L).getLastD 0) := by
    have := Rat.mul_nonneg u0 (show 0 ≤ (slopes L).headD 0 - (slopes L).getLastD 0 by grind)
    grind
  have in2 : (slopes L).getLastD 0 + u.val * ((slopes L).headD 0 - (slopes L).getLastD 0) ≤ (slopes L).headD 0 := by
    have := Rat.mul_le_mul_of_nonneg_right u1 (show 0 ≤ (slopes L).headD 0 - (slopes L).getLastD 0 by grind)
    grind
  generalize (slopes L).getLastD 0 + u.val * ((slopes L).headD 0 - (slopes L).getLastD 0) = p0 at *
  have e3 := r_pick (n + 2) (C := C1) (ds := (slopes L).map fr) o1 (by omega) (by simp; omega) (by simp; omega)
  have c1 := dwV_lo C1 (t := (((slopes L).map fr).length : Nat)) (by simp; omega)
  have c2 := dwV_hi C1 (t := (((slopes L).map fr).length : Nat)) (by simp; omega)
  have o2 := o1.dw (t := (((slopes L).map fr).length : Nat)) (by simp; omega)
  rw [List.length_map] at c1 c2
  obtain ⟨q, hqm, eq⟩ := getD_fr (l := slopes L) (i := (dwV C1 ((slopes L).map fr).length).toNat) (by rw [List.length_map]; omega)
  rw [eq] at e3
  generalize dwS C1 ((slopes L).map fr).length = C2 at *
  have e4 := r_pick (n + 2) (C := C2) (ds := [p0, p0, q].map fr) o2 (by omega) (by simp) (by simp)
  have d1 := dwV_lo C2 (t := 3) (by decide)
  have d2 := dwV_hi C2 (t := 3) (by decide)
  have o3 := o2.dw (t := 3) (by decide)
  rw [show ((([p0, p0, q].map fr).length : Nat) : Int) = 3 from rfl] at e4
  obtain ⟨p, hpm, ep⟩ := getD_fr (l := [p0, p0, q]) (i := (dwV C2 3).toNat) (by simp; omega)
  rw [ep] at e4
  have e4 : Φ (n + 4) 25 [.list C2.l, .list [fr p0, fr p0, fr q]] = .ok (.val (fr p), (dwS C2 3).l) := e4
  generalize dwS C2 3 = C3 at *
  have pin : (slopes L).getLastD 0 ≤ p ∧ p ≤ (slopes L).headD 0 ∧ lq p ≤ 219 := by
    have := ends q hqm
    have := hL.sp q hqm
    simp only [List.mem_cons, List.not_mem_nil, or_false] at hpm
    rcases hpm with rfl | rfl | rfl
    · exact ⟨in1, in2, by omega⟩
    · exact ⟨in1, in2, by omega⟩
    · exact ⟨(ends _ hqm).2, (ends _ hqm).1, by omega⟩
  have e5 := r_draw (n + 3) o3 (t := 9) (by omega) (by decide) (by decide)
  have o4 := o3.dw (t := 9) (by decide)
  have f1 := dwV_lo C3 (t := 9) (by decide)
  have f2 := dwV_hi C3 (t := 9) (by decide)
  generalize dwV C3 9 = x at *
  generalize dwS C3 9 = C4 at *
  have e6 := r_draw (n + 3) o4 (t := 4) (by omega) (by decide) (by decide)
  have o5 := o4.dw (t := 4) (by decide)
  have g1 := dwV_lo C4 (t := 4) (by decide)
  have g2 := dwV_hi C4 (t := 4) (by decide)
  generalize dwV C4 4 = y at *
  generalize dwS C4 4 = C5 at *
  have lx := lg_nat (i := x) (B := 15) (k := 4) (by omega) (by decide)
  have ly := lg_nat (i := 1 + y) (B := 7) (k := 3) (by omega) (by decide)
  have e7 := r_frac (n + 2) x (1 + y) (by omega) (by omega)
  have tz := lq_divInt (t := x) (b := 1 + y) (by omega)
  have t0 : 0 ≤ Rat.divInt x (1 + y) := (Rat.divInt_nonneg_iff_of_pos_right (by omega)).mpr f1
  generalize Rat.divInt x (1 + y) = dt at *
  have mz := lq_mul p dt
  have e8 := r_lmul (n + 1) p dt (by omega)
  have lr : letsR L (p * dt) dt := ⟨t0, Rat.mul_le_mul_of_nonneg_right pin.1 t0, Rat.mul_le_mul_of_nonneg_right pin.2.1 t0⟩
  refine ⟨p * dt, dt, C5, ?_, lr, t0, by omega, by omega, o5.mono (by omega)⟩
  clear lr pin in1 in2 le hp hq ends hpm hqm
  generalize (slopes L).headD 0 = h0 at *
  generalize (slopes L).getLastD 0 = h1 at *
  simp only [F43]
  simp (config := { implicitDefEqProofs := false }) [startE, i0, i1, e1, e2, e3, e4, e5, e6, e7, e8]

end K04

end

section
set_option maxHeartbeats 1000000
namespace K04
open PySem PySem.Spec PyProof.Rows L2 Mp
/-! ### the law -/
def restQ : Nat → Sm := nthS F45.body
/-- one step's turn -/
theorem right_t1 (n : Nat) {L : List (Rat × Rat)} (hL : RoadOk L) {C : Ck} {x y : Rat} (hl : letsR L x y) (zx : lq x ≤ 226) (zy : lq y ≤ 7) (P O T a5 a6 a7 a8 a9 a10 a11 a12 a13 : Sv) :
    ∃ (b5 b6 b7 b8 b9 : Sv), fb (Sx (some 0) (n + 10)) (forT (restQ 3)) (forB (restQ 3)) (.tuple [fr x, fr y]) [.own C.l, .val (KD L), P, O, T, a5, a6, a7, a8, a9, a10, a11, a12, a13] =
      .ok (.nx, [.own C.l, .val (KD L), P, O, T, b5, b6, b7, b8, b9, a10, a11, a12, a13]) := by
  have vk := hL.vk
  have hs : ∀ c ∈ L, lc c ≤ 200 := fun c hc => Nat.le_trans (hL.sz c hc) (by decide)
  have t0 := hl.1
  have e1 := r_ltoll (n + 7) (L := L) (v := x) (t := y) hs (by omega) (by omega)
  have e2 := r_toll n vk hs (v := x) (t := y) (by omega) (by omega) t0 hl
  have z1 := tollR_size hL.sz (a := x) (t := y) (m := 226) zx (by omega)
  obtain ⟨t1, f1, f2⟩ := (Shw.lpair (Shw.frq (q := tollR L x y) (by omega)) (Shw.frq (q := tollR L x y) (by omega))).repr (by decide) (by decide)
  by_cases y0 : 0 < y
  · have yn : 0 < y.num := num_pos.mpr y0
    have ne : y ≠ 0 := by grind
    have e3 := r_ldiv (n + 7) x y ne (by omega)
    have z3 := lq_div (a := x) ne
    have em : x / y * y = x := by rw [Rat.div_def, Rat.mul_assoc, Rat.inv_mul_cancel _ ne, Rat.mul_one]
    have hl1 : letsR L (x / y) 1 := by
      have h1 := hl.2.1
      have h2 := hl.2.2
      rw [← em] at h1 h2
      refine ⟨by decide, ?_, ?_⟩
      · rw [Rat.mul_one]
        apply Classical.byContradiction
        intro z
        have := Rat.mul_lt_mul_of_pos_right (show x / y < (slopes L).getLastD 0 by grind) y0
        grind
      · rw [Rat.mul_one]
        apply Classical.byContradiction
        intro z
        have := Rat.mul_lt_mul_of_pos_right (show (slopes L).headD 0 < x / y by grind) y0
        grind
    have hom := tollR_mul vk (a := x / y) (t := 1) y0
    rw [em, Rat.one_mul] at hom
    generalize x / y = p at *
    have e4 := r_lrate (n + 6) (L := L) (v := p) hs (by omega)
    have e5 := r_toll_rateG n vk hs (v := p) (by omega) hl1
    have z2 := tollR_size hL.sz (a := p) (t := 1) (m := 233) (by omega) (by decide)
    have e6 := r_lmul (n + 7) (tollR L p 1) y (by omega)
    rw [← hom] at e6
    have sh1 : Shw (fr (tollR L p 1)) 4000 2 := Shw.frq (by omega)
    have sh2 : Shw (fr (tollR L x y)) 4000 2 := Shw.frq (by omega)
    obtain ⟨t2, g1, g2⟩ := (Shw.list (n := 4000) (k := 2) (l := [fr (tollR L p 1), fr (tollR L p 1), fr (tollR L x y)]) (fun d hd => by
      simp only [List.mem_cons, List.not_mem_nil, or_false] at hd
      rcases hd with rfl | rfl | rfl
      · exact sh1
      · exact sh1
      · exact sh2)).repr (by simp) (by decide)
    refine ⟨.val (fr x), .val (fr y), .val (fr (tollR L p 1)), .val (fr p), .val (fr (tollR L p 1)), ?_⟩
    simp only [restQ, nthS, forT, forB, F45]
    simp (config := { implicitDefEqProofs := false }) [e1, e2, e3, e4, e5, e6, f1, f2, g1, g2, yn, permD]
  · have yn : ¬ 0 < y.num := fun z => y0 (num_pos.mp z)
    refine ⟨.val (fr x), .val (fr y), .val (fr (tollR L x y)), a8, a9, ?_⟩
    simp only [restQ, nthS, forT, forB, F45]
    simp (config := { implicitDefEqProofs := false }) [e1, e2, f1, f2, yn, permD]
/-- one asked step's turn -/
theorem right_t2 (n : Nat) {L : List (Rat × Rat)} (hL : RoadOk L) {C : Ck} {x t : Rat} (zx : lq x ≤ 226) (zt : lq t ≤ 7) (t0 : 0 ≤ t) (O T a5 a7 a8 a9 a10 a11 a12 a13 : Sv) :
    ∃ (b7 : Sv), fb (Sx (some 0) (n + 11)) (forT (restQ 10)) (forB (restQ 10)) (fr x) [.own C.l, .val (KD L), .val (.list ((slopes L).map fr)), O, T, a5, .val (fr t), a7, a8, a9, a10, a11, a12, a13] =
      .ok (.nx, [.own C.l, .val (KD L), .val (.list ((slopes L).map fr)), O, T, .val (fr x), .val (fr t), b7, a8, a9, a10, a11, a12, a13]) := by
  have vk := hL.vk
  have hs : ∀ c ∈ L, lc c ≤ 200 := fun c hc => Nat.le_trans (hL.sz c hc) (by decide)
  have sl := slopes_length L
  have len1 := vk.len
  have len2 := vk.len2
  have hne : slopes L ≠ [] := fun z => by rw [z] at sl; simp at sl; omega
  have e1 := r_lets (n + 7) (s := slopes L) (v := x) (t := t) hne (fun y hy => by have := hL.sp y hy; omega) (by omega) (by omega)
  have e2 := r_ltoll (n + 8) (L := L) (v := x) (t := t) hs (by omega) (by omega)
  have e3 := r_told n vk hs (v := x) (t := t) (by omega) (by omega) t0
  have el : (0 ≤ t ∧ (slopes L).getLastD 0 * t ≤ x ∧ x ≤ (slopes L).headD 0 * t) ↔ letsR L x t := Iff.rfl
  have ed : (.bool (decide (0 ≤ t ∧ (slopes L).getLastD 0 * t ≤ x ∧ x ≤ (slopes L).headD 0 * t)) : D) = .bool (decide (letsR L x t)) := by
    congr 1
  rw [ed] at e1
  have z1 := tollR_size hL.sz (a := x) (t := t) (m := 226) zx (by omega)
  by_cases hl : letsR L x t
  · rw [decide_eq_true hl] at e1
    rw [if_pos hl] at e3
    obtain ⟨t1, f1, f2⟩ := (Shw.frq (q := tollR L x t) (by omega)).repr (by decide) (by decide)
    refine ⟨.val (fr (tollR L x t)), ?_⟩
    simp only [restQ, nthS, forT, forB, F45]
    simp (config := { implicitDefEqProofs := false }) [e1, e2, e3, f1, f2]
  · rw [decide_eq_false hl] at e1
    rw [if_neg hl] at e3
    have ss : Shw (.str "no step") 20 1 := ⟨⟨by decide +kernel, by decide +kernel⟩, by decide +kernel, rfl, by simp [PyData.depth]⟩
    have sh : Shw (.list [.str "no step", .bool true]) 100 3 := (Shw.list (n := 20) (k := 1) (l := [.str "no step", .bool true]) (fun d hd => by
      simp only [List.mem_cons, List.not_mem_nil, or_false] at hd
      rcases hd with rfl | rfl
      · exact ss
      · exact (Shw.bool true).mono (by decide) (by decide))).mono (by decide) (by decide)
    obtain ⟨t1, f1, f2⟩ := sh.repr (by decide) (by decide)
    refine ⟨.val (.list [.str "no step", .bool true]), ?_⟩
    simp only [restQ, nthS, forT, forB, F45]
    simp (config := { implicitDefEqProofs := false }) [e1, e2, e3, f1, f2]

end K04

end

section
set_option maxHeartbeats 1000000
namespace K04
open PySem PySem.Spec PyProof.Rows L2 Mp
/-! ### the law's kind -/
def s1R : Sm := match F45.body with
  | .cons s _ => s
  | .nil => .pass ⟨0, 0, 0, 0⟩
def restR : Sms := match F45.body with
  | .cons _ r => r
  | .nil => .nil
theorem right_kind (n : Nat) {C : Ck} {m : Int} (h : C.ok m) (hm : m ≤ 500) (u : Sv) (r : En) : ∃ (L : List (Rat × Rat)) (C' : Ck), evS (Sx (some 0) (n + 5)) s1R (.own C.l :: u :: r) = .ok (.nx, .own C'.l :: .val (KD L) :: r) ∧ RoadOk L ∧ C'.ok (m + 40) := by
  have e1 := r_draw (n + 4) h (t := 5) (by omega) (by decide) (by decide)
  have o1 := h.dw (t := 5) (by decide)
  generalize dwV C 5 = v at *
  generalize dwS C 5 = C1 at *
  by_cases p : 0 < v
  · obtain ⟨L, C', e2, hL, o2⟩ := r_road n o1 (by omega)
    refine ⟨L, C', ?_, hL, o2.mono (by omega)⟩
    simp [s1R, F45, e1, e2, p]
  · have e2 := r_draw (n + 4) o1 (t := 8) (by omega) (by decide) (by decide)
    have o2 := o1.dw (t := 8) (by decide)
    have a1 := dwV_lo C1 (t := 8) (by decide)
    have a2 := dwV_hi C1 (t := 8) (by decide)
    generalize dwV C1 8 = w at *
    generalize dwS C1 8 = C2 at *
    obtain ⟨L, C', e3, hL, o3⟩ := r_long (n + 1) (M := 5 + w) (j := (4 + w).toNat) (by omega) o2 (by omega) (by omega) (by omega)
    refine ⟨L, C', ?_, hL, o3.mono (by omega)⟩
    simp [s1R, F45, e1, e2, e3, p]

end K04

end

section
set_option maxHeartbeats 1000000
namespace K04
open PySem PySem.Spec PyProof.Rows L2 Mp
theorem r_lpaces (n : Nat) {L : List (Rat × Rat)} (h : VK L) (hs : ∀ c ∈ L, lc c ≤ 200) : Φ (n + 4) 39 [KD L] = .ok (.own ((slopes L).map fr), []) := by
  rw [at_ (F := F39) rfl rfl rfl]
  have len1 := h.len
  have len2 := h.len2
  obtain ⟨J, hJ⟩ : ∃ J, L.length = J + 1 := ⟨L.length - 1, by omega⟩
  have pJ : ((J + 1 : Nat) : Int) - 1 = ((J : Nat) : Int) := by omega
  have sJ := small_nat (k := J) (by omega)
  have rJ : rngD 0 ((J : Nat) : Int) = (List.range J).map fun k => .int (k : Nat) := by
    rw [rng_map, Int.toNat_natCast]
  simp only [F39, startE]
  simp (config := { implicitDefEqProofs := false }) [outD_none, hJ, pJ, sJ, rJ, -for_cons, -for_nil]
  generalize hz : forD _ _ _ _ = z
  have key := for_at (α := Nat) (f := fun k => .int (k : Nat)) (fun done σ => ∃ a, σ = [.val (KD L), .own (((slopes L).take done.length).map fr), a]) (List.range J) (l := List.range J) (done := []) rfl hz ⟨_, rfl⟩ (fun done k rst σ hR ⟨a, e⟩ => by
    subst e
    obtain ⟨hk, hkJ⟩ := range_split hR
    rw [List.length_append, List.length_singleton, ← hk]
    have q1 := prs_at (L := L) (k := k) (by omega)
    have s1 := hs _ (mem_prs q1).1
    have s2 := hs _ (mem_prs q1).2
    have hi := h.inc _ q1
    simp only at s1 s2 hi
    unfold lc at s1 s2
    have hkl : k < L.length := by omega
    have hkl2 : k + 1 < L.length := by omega
    have i1 : ixD (L.map cn) ((k : Nat) : Int) = some (cn L[k]) := ixD_nat (by rw [List.getElem?_map, List.getElem?_eq_getElem hkl]; rfl)
    have i2 : ixD (L.map cn) (((k : Nat) : Int) + 1) = some (cn L[k + 1]) := ixD_nat (i := k + 1) (by rw [List.getElem?_map, List.getElem?_eq_getElem hkl2]; rfl)
    have x1 := slopes_at (L := L) (k := k) (by omega)
    have sl := slopes_length L
    have tk : (slopes L).take (k + 1) = (slopes L).take k ++ [slope (L[k], L[k + 1])] := by
      rw [List.take_succ_eq_append_getElem (by omega), x1]
    have tl : ((slopes L).take k).length + 1 ≤ 4096 := by rw [List.length_take]; omega
    rw [tk]
    clear tk x1 q1
    generalize (slopes L).take k = f at *
    generalize L[k] = c at *
    generalize L[k + 1] = d at *
    have g1 := r_lsub n d.2 c.2 (by omega)
    have g2 := r_lsub n d.1 c.1 (by omega)
    have z1 := lq_sub d.2 c.2
    have z2 := lq_sub d.1 c.1
    have g3 := r_ldiv n (d.2 - c.2) (d.1 - c.1) (by grind) (by omega)
    refine ⟨[.val (KD L), .own ((f ++ [slope (c, d)]).map fr), .val (.int (k : Nat))], ?_, _, rfl⟩
    simp (config := { implicitDefEqProofs := false }) [i1, i2, g1, g2, g3, slope, tl])
  obtain ⟨σ, rfl, a, rfl⟩ := key
  have : (slopes L).take J = slopes L := List.take_of_length_le (by rw [slopes_length]; omega)
  simp [this]
theorem pick_fr (n : Nat) {C : Ck} {m : Int} (hC : C.ok m) (hm : m ≤ 9000) (l : List Rat) (h0 : 0 < l.length) (h1 : l.length ≤ 10) : ∃ (q : Rat) (C' : Ck), Φ (n + 2) 25 [.list C.l, .list (l.map fr)] = .ok (.val (fr q), C'.l) ∧ q ∈ l ∧ C'.ok (m + 1) := by
  have e6 := r_pick n (C := C) (ds := l.map fr) hC (by omega) (by simp; omega) (by simp; omega)
  have c1 := dwV_lo C (t := ((l.map fr).length : Nat)) (by simp; omega)
  have c2 := dwV_hi C (t := ((l.map fr).length : Nat)) (by simp; omega)
  have o3 := hC.dw (t := ((l.map fr).length : Nat)) (by simp; omega)
  rw [List.length_map] at c1 c2
  obtain ⟨q, hq, eq⟩ := getD_fr (l := l) (i := (dwV C (l.map fr).length).toNat) (by rw [List.length_map]; omega)
  rw [eq] at e6
  exact ⟨q, _, e6, hq, o3⟩
theorem r_right (n : Nat) {C : Ck} {m : Int} (h : C.ok m) (hm : m ≤ 500) : ∃ l, Φ (n + 12) 45 [.list C.l] = .ok (.val (.bool true), l) := by
  rw [at_ (F := F45) rfl rfl rfl]
  obtain ⟨L, C1, e1, hL, o1⟩ := right_kind (n + 6) h hm .un [.un, .un, .un, .un, .un, .un, .un, .un, .un, .un, .un, .un]
  have eb : F45.body = .cons s1R restR := rfl
  have en : startE F45.N.length F45.io [.list C.l] = .own C.l :: [.un, .un, .un, .un, .un, .un, .un, .un, .un, .un, .un, .un, .un] := rfl
  rw [eb, en, y_cons]
  have e1 : evS (Sx F45.io (n + 11)) s1R (.own C.l :: [.un, .un, .un, .un, .un, .un, .un, .un, .un, .un, .un, .un, .un]) = .ok (.nx, [.own C1.l, .val (KD L), .un, .un, .un, .un, .un, .un, .un, .un, .un, .un, .un, .un]) := e1
  rw [e1]
  clear e1
  have vk := hL.vk
  have hs : ∀ c ∈ L, lc c ≤ 200 := fun c hc => Nat.le_trans (hL.sz c hc) (by decide)
  have sl := slopes_length L
  have len1 := vk.len
  have len2 := vk.len2
  have hne : slopes L ≠ [] := fun z => by rw [z] at sl; simp at sl; omega
  have e2 := r_lpaces (n + 7) vk hs
  obtain ⟨x1, y1, C2, e3, l1, p1, zx1, zy1, o2⟩ := r_step (n + 6) hL o1 (by omega)
  obtain ⟨x2, y2, C3, e4, l2, p2, zx2, zy2, o3⟩ := r_step (n + 6) hL o2 (by omega)
  have q1 := lq_add x1 x2
  have q2 := lq_add y1 y2
  have l3 : letsR L (x1 + x2) (y1 + y2) := by
    refine ⟨by grind, ?_, ?_⟩
    · have := l1.2.1
      have := l2.2.1
      grind
    · have := l1.2.2
      have := l2.2.2
      grind
  have e5 := r_ladd (n + 8) x1 x2 (by omega)
  have e6 := r_ladd (n + 8) y1 y2 (by omega)
  have e7 := r_toll (n + 1) vk hs (v := x1 + x2) (t := y1 + y2) (by omega) (by omega) (by grind) l3
  have e8 := r_toll (n + 1) vk hs (v := x1) (t := y1) (by omega) (by omega) p1 l1
  have e9 := r_toll (n + 1) vk hs (v := x2) (t := y2) (by omega) (by omega) p2 l2
  have z1 := tollR_size hL.sz (a := x1) (t := y1) (m := 226) zx1 (by omega)
  have z2 := tollR_size hL.sz (a := x2) (t := y2) (m := 226) zx2 (by omega)
  have z3 := tollR_size hL.sz (a := x1 + x2) (t := y1 + y2) (m := 1000) (by omega) (by omega)
  have e10 := r_ladd (n + 8) (tollR L x1 y1) (tollR L x2 y2) (by omega)
  have z4 := lq_add (tollR L x1 y1) (tollR L x2 y2)
  have e11 := r_under (n + 10) (tollR L x1 y1 + tollR L x2 y2) (tollR L (x1 + x2) (y1 + y2)) (by omega)
  have sup := tollR_add vk (a := x1) (b := x2) (s := y1) (t := y2)
  rw [decide_eq_false (by grind)] at e11
  have e12 := r_small (n + 8) o3 (by omega)
  have o4 := dvS_ok (i := 4) (j := 2) o3 (by decide) (by decide)
  have w0 : 0 < dvV C3 4 2 := dvV_pos C3 (by decide) (by decide)
  have wb : Bd 2 8 (dvV C3 4 2) := dvV_bd C3 (A := 4) (by decide) (by decide) (by decide) (two_dvd 2 rfl) (by decide)
  generalize dvS C3 4 2 = C4 at *
  generalize dvV C3 4 2 = w at *
  have wq := wb.lq (k := 4) (m := 2) (by decide) (by decide) (by decide)
  have m1 := lq_mul x1 w
  have m2 := lq_mul y1 w
  have e13 := r_lmul (n + 8) x1 w (by omega)
  have e14 := r_lmul (n + 8) y1 w (by omega)
  have l4 : letsR L (x1 * w) (y1 * w) := by
    refine ⟨Rat.mul_nonneg p1 (by grind), ?_, ?_⟩
    · have := Rat.mul_le_mul_of_nonneg_right l1.2.1 (show 0 ≤ w by grind)
      rw [← Rat.mul_assoc]
      exact this
    · have := Rat.mul_le_mul_of_nonneg_right l1.2.2 (show 0 ≤ w by grind)
      rw [← Rat.mul_assoc]
      exact this
  have e15 := r_toll (n + 1) vk hs (v := x1 * w) (t := y1 * w) (by omega) (by omega) l4.1 l4
  have hom := tollR_mul vk (a := x1) (t := y1) w0
  rw [hom] at e15
  have e16 := r_lmul (n + 8) (tollR L x1 y1) w (by omega)
  have z5 := lq_mul (tollR L x1 y1) w
  obtain ⟨t1, f1, f2⟩ := (Shw.frq (q := tollR L x1 y1 * w) (by omega)).repr (by decide) (by decide)
  obtain ⟨fa, C5, e17, n1, n2, _, o5⟩ := r_fraction (n + 8) o4 (by omega)
  have fz := lq_nd fa
  have e18 := r_lmulU (n + 8) (U.of fa) ⟨1, 2, by decide⟩ (by rw [lu_of]; have : lu ⟨1, 2, by decide⟩ = 3 := by decide
                                                              omega)
  rw [val_of] at e18
  have e18 : Φ (n + 11) 30 [fr fa, .tuple [.int 1, .int 2]] = .ok (.val (fr (fa * (U.mk 1 2 (by decide)).val)), []) := e18
  have u12 : lq (U.mk 1 2 (by decide)).val ≤ 3 := lq_val _
  have z6 := lq_mul fa (U.mk 1 2 (by decide)).val
  generalize fa * (U.mk 1 2 (by decide)).val = far at *
  have e19 := r_draw (n + 10) o5 (t := 7) (by omega) (by decide) (by decide)
  have o6 := o5.dw (t := 7) (by decide)
  have b1 := dwV_lo C5 (t := 7) (by decide)
  have b2 := dwV_hi C5 (t := 7) (by decide)
  generalize dwV C5 7 = v7 at *
  generalize dwS C5 7 = C6 at *
  have lv := lg_nat (i := v7) (B := 7) (k := 3) (by omega) (by decide)
  have l2' : lg 2 = 2 := by decide
  have e20 := r_frac (n + 9) v7 2 (by decide) (by omega)
  have tz := lq_divInt (t := v7) (b := 2) (by decide)
  have t0 : 0 ≤ Rat.divInt v7 2 := (Rat.divInt_nonneg_iff_of_pos_right (by decide)).mpr b1
  generalize Rat.divInt v7 2 = dt at *
  obtain ⟨a, l, es⟩ := List.exists_cons_of_ne_nil hne
  have i0 : ixD ((slopes L).map fr) 0 = some (fr ((slopes L).headD 0)) := by rw [es]; simp
  have i1 : ixD ((slopes L).map fr) (-1) = some (fr ((slopes L).getLastD 0)) := by
    apply ixD_m1
    rw [List.getLast?_map, List.getLastD_eq_getLast?, List.getLast?_eq_some_getLast hne]
    rfl
  have sp1 := hL.sp _ (show (slopes L).headD 0 ∈ slopes L by rw [es]; simp)
  have sp2 := hL.sp _ (getLastD_in hne 0)
  generalize (slopes L).headD 0 = h0 at *
  generalize (slopes L).getLastD 0 = h1 at *
  obtain ⟨p, C7, e21, hp, o7⟩ := pick_fr (n + 9) o6 (by omega) [h0, h1] (by simp) (by simp)
  have e21 : Φ (n + 11) 25 [.list C6.l, .list [fr h0, fr h1]] = .ok (.val (fr p), C7.l) := e21
  have pz : lq p ≤ 20 := by
    simp only [List.mem_cons, List.not_mem_nil, or_false] at hp
    rcases hp with rfl | rfl
    · exact sp1
    · exact sp2
  clear hp sp1 sp2
  have e22 := r_lmul (n + 8) p dt (by omega)
  have z7 := lq_mul p dt
  generalize p * dt = edge at *
  have e23 := r_pick (n + 9) (C := C7) (ds := [.int 1, .int (-1)]) o7 (by omega) (by decide) (by decide)
  rw [show ((([.int 1, .int (-1)] : List D).length : Nat) : Int) = 2 from rfl] at e23
  have c1 := dwV_lo C7 (t := 2) (by decide)
  have c2 := dwV_hi C7 (t := 2) (by decide)
  have o8 := o7.dw (t := 2) (by decide)
  obtain ⟨s, hs1, hs2⟩ : ∃ s : Int, ([.int 1, .int (-1)] : List D).getD (dwV C7 2).toNat .none = .int s ∧ (s = 1 ∨ s = -1) := by
    have : dwV C7 2 = 0 ∨ dwV C7 2 = 1 := by omega
    rcases this with z | z <;> rw [z]
    · exact ⟨1, rfl, .inl rfl⟩
    · exact ⟨-1, rfl, .inr rfl⟩
  rw [hs1] at e23
  generalize dwS C7 2 = C8 at *
  have ls : lg s ≤ 1 := by rcases hs2 with rfl | rfl <;> decide
  have l97 : lg 97 = 7 := by decide
  have e24 := r_frac (n + 9) s 97 (by decide) (by omega)
  have z8 := lq_divInt (t := s) (b := 97) (by decide)
  generalize Rat.divInt s 97 = bit at *
  have e25 := r_ladd (n + 8) edge bit (by omega)
  have z9 := lq_add edge bit
  generalize edge + bit = off at *
  simp only [restR, F45]
  simp (config := { implicitDefEqProofs := false }) [e2, e3, e4, -for_cons, -for_nil]
  generalize hz : forD _ _ _ _ = z
  have key := for_ex (α := Rat × Rat) (f := fun p => .tuple [fr p.1, fr p.2]) (l := [(x1, y1), (x2, y2)]) (fun _ σ => ∃ b5 b6 b7 b8 b9, σ = [.own C3.l, .val (KD L), .val (.list ((slopes L).map fr)), .val (.tuple [fr x1, fr y1]), .val (.tuple [fr x2, fr y2]), b5, b6, b7, b8, b9, .un, .un, .un, .un]) hz
    ⟨_, _, _, _, _, rfl⟩ (fun r a σ ha ⟨b5, b6, b7, b8, b9, e⟩ => by
      subst e
      simp only [List.mem_cons, List.not_mem_nil, or_false] at ha
      rcases ha with rfl | rfl
      · obtain ⟨d5, d6, d7, d8, d9, e⟩ := right_t1 (n + 1) hL (C := C3) l1 zx1 zy1 (.val (.list ((slopes L).map fr))) (.val (.tuple [fr x1, fr y1])) (.val (.tuple [fr x2, fr y2])) b5 b6 b7 b8 b9 .un .un .un .un
        exact ⟨_, e, d5, d6, d7, d8, d9, rfl⟩
      · obtain ⟨d5, d6, d7, d8, d9, e⟩ := right_t1 (n + 1) hL (C := C3) l2 zx2 zy2 (.val (.list ((slopes L).map fr))) (.val (.tuple [fr x1, fr y1])) (.val (.tuple [fr x2, fr y2])) b5 b6 b7 b8 b9 .un .un .un .un
        exact ⟨_, e, d5, d6, d7, d8, d9, rfl⟩)
  obtain ⟨σ, rfl, b5, b6, b7, b8, b9, rfl⟩ := key
  clear hz
  simp (config := { implicitDefEqProofs := false }) [e5, e6, e7, e8, e9, e10, e11, e12, e13, e14, e15, e16, f1, f2, e17, e18, e19, e20, i0, i1, e21, e22, e23, e24, e25, -for_cons, -for_nil]
  generalize hz : forD _ _ _ _ = z
  have key := for_ex (α := Rat) (f := fr) (l := [far, edge, off]) (fun _ σ => ∃ b5 b7 b8 b9 b10 b11 b12 b13, σ = [.own C8.l, .val (KD L), .val (.list ((slopes L).map fr)), .val (.tuple [fr x1, fr y1]), .val (.tuple [fr x2, fr y2]), b5, .val (fr dt), b7, b8, b9, b10, b11, b12, b13]) hz
    ⟨_, _, _, _, _, _, _, _, rfl⟩ (fun r a σ ha ⟨b5, b7, b8, b9, b10, b11, b12, b13, e⟩ => by
      subst e
      simp only [List.mem_cons, List.not_mem_nil, or_false] at ha
      have az : lq a ≤ 226 := by rcases ha with rfl | rfl | rfl <;> omega
      obtain ⟨d7, e⟩ := right_t2 n hL (C := C8) az (t := dt) (by omega) t0 (.val (.tuple [fr x1, fr y1])) (.val (.tuple [fr x2, fr y2])) b5 b7 b8 b9 b10 b11 b12 b13
      exact ⟨_, e, _, _, _, _, _, _, _, _, rfl⟩)
  obtain ⟨σ, rfl, b5, b7, b8, b9, b10, b11, b12, b13, rfl⟩ := key
  simp
theorem r_law (n : Nat) (ns : List Int) (hn : ns.length ≤ 63) : Φ (n + 13) 46 [.list (ns.map .int)] = .ok (.val (.bool true), []) := by
  rw [at_ (F := F46) rfl rfl rfl]
  simp [F46, startE, outD_none, -comp_told]
  rw [comp_each (List.range (max 3 (min ns.length 6))) (fun k => .int (k : Nat)) (fun _ => .bool true)]
  · simp [all_true]
  · simp [-rng1R_int]
    refine rng1R_nat ?_ (by omega) _
    split <;> split <;> omega
  · simp; omega
  · intro k hk
    have hk := List.mem_range.mp hk
    obtain ⟨C, hC, e⟩ := r_spring (n + 11) ns hn (t := k) (by omega)
    obtain ⟨l, e2⟩ := r_right n hC (by decide)
    simp [e, e2, KeptE]
theorem ok : LawOk fs cs 46 63 100 := fun ns hn => ⟨[], r_law 87 ns hn⟩
theorem done : PySem.Challenge.rw_roadwaves_k04_whole_tolls_and_their_sums.Holds := holds ok

end K04

end

theorem PySem.Challenge.cw_roadwaves_k04_whole_tolls_and_their_sums_holds : PySem.Challenge.rw_roadwaves_k04_whole_tolls_and_their_sums.Holds := by
  exact K04.done
