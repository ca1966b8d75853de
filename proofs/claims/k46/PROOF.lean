import PyProof.Rows.All
import Wide.All
import OpenK.AllK
import Wide.FinOn
import HandS.ForMost
import HandS.TupAny
import HandS.TupLe
import HandS.TupMul
import HandS.IsInst
import KE.KNest
import KE.KTupSum
import HandS.DictTup
import HandS.DictEq
import HandS.Conv
import HandS.DictComp
import KE.SortData
import KE.DataCmp
import KE.DataAny
import KE.KDictSum
import HandS.Deep
import KE.KRevSl
import HandS.Style
import HandS.ExcInit
import HandS.Nested
import KE.KExcSuper
import KE.KSuper
import HandS.ExcField
import HandS.ExcOwn
import HandS.ExcIs
import KE.KExcIs
import HandS.TryOnly
import HandS.FromBytesMap
import KE.SortKeyed
import HandS.SortKw
import HandS.Flt
import PyProof.GenQ
import PyProof.CodeObjX
import HandS.GenList
import HandS.AnyAll
import HandS.EndBits
import HandS.EndTab
import PySem.Challenge.RW_mintlaw_k46_great_books
set_option Elab.async false
set_option linter.all false
set_option maxRecDepth 100000
set_option maxHeartbeats 4000000
namespace Pu
open PySem
def TNames : List Str := ["pumped", "is_closed", "is_report"]
end Pu
/-! Pd: the plain side: data, the monad of results (with draws), the operations of the language on data. -/
namespace Pu
open PySem
abbrev D := PyData
/-- a result: a value, a raised error (its class's number, its field), nothing known, a draw below n -/
inductive R (α : Type) : Type where
  | ret (a : α)
  | exc (c : Nat) (x : D)
  | bad
  | pick (n : Int) (k : Int → R α)
namespace R
variable {α β γ : Type}
def bind : R α → (α → R β) → R β
  | ret a, f => f a
  | exc c x, _ => exc c x
  | bad, _ => bad
  | pick n k, f => pick n fun i => bind (k i) f
/-- every end bears it -/
def wp (Q : α → Prop) (E : Nat → D → Prop) : R α → Prop
  | ret a => Q a
  | exc c x => E c x
  | bad => False
  | pick n k => ∀ i, 0 ≤ i → i < n → wp Q E (k i)
theorem bind_assoc (r : R α) (f : α → R β) (g : β → R γ) : (r.bind f).bind g = r.bind fun a => (f a).bind g := by
  induction r with
  | ret a => rfl
  | exc c x => rfl
  | bad => rfl
  | pick n k ih => show pick n _ = pick n _; congr 1; funext i; exact ih i
theorem wp_bind {Q : β → Prop} {E : Nat → D → Prop} {f : α → R β} : ∀ {r : R α}, wp Q E (r.bind f) ↔ wp (fun a => wp Q E (f a)) E r
  | ret a => Iff.rfl
  | exc c x => Iff.rfl
  | bad => Iff.rfl
  | pick n k => by
    show (∀ i, 0 ≤ i → i < n → wp Q E ((k i).bind f)) ↔ ∀ i, 0 ≤ i → i < n → wp (fun a => wp Q E (f a)) E (k i)
    exact ⟨fun h i a b => wp_bind.mp (h i a b), fun h i a b => wp_bind.mpr (h i a b)⟩
theorem wp_mono {Q Q' : α → Prop} {E E' : Nat → D → Prop} (hq : ∀ a, Q a → Q' a) (he : ∀ c x, E c x → E' c x) : ∀ {r : R α}, wp Q E r → wp Q' E' r
  | ret a, h => hq a h
  | exc c x, h => he c x h
  | bad, h => h
  | pick n k, h => fun i a b => wp_mono hq he (h i a b)
theorem wp_ite {Q : α → Prop} {E : Nat → D → Prop} {c : Prop} [Decidable c] {r : R α} (h : wp Q E (if c then r else bad)) : c ∧ wp Q E r := by
  by_cases hc : c
  · rw [if_pos hc] at h; exact ⟨hc, h⟩
  · rw [if_neg hc] at h; exact h.elim
@[simp] theorem ret_bind (a : α) (f : α → R β) : (ret a).bind f = f a := rfl
@[simp] theorem exc_bind (c : Nat) (x : D) (f : α → R β) : (exc c x).bind f = exc c x := rfl
@[simp] theorem bad_bind (f : α → R β) : (bad : R α).bind f = bad := rfl
@[simp] theorem wp_ret (Q : α → Prop) (E : Nat → D → Prop) (a : α) : wp Q E (ret a) ↔ Q a := Iff.rfl
@[simp] theorem wp_exc (Q : α → Prop) (E : Nat → D → Prop) (c : Nat) (x : D) : wp Q E (exc c x : R α) ↔ E c x := Iff.rfl
@[simp] theorem wp_bad (Q : α → Prop) (E : Nat → D → Prop) : wp Q E (bad : R α) ↔ False := Iff.rfl
end R
open R
/-- how a block ends: it goes on with s, leaves or turns its loop with b, hands back d and what the in-out arguments hold -/
inductive Out (S B T : Type) : Type where
  | nx (s : S)
  | bk (b : B)
  | ct (b : B)
  | rt (d : D) (t : T)
section
variable {S S' B T : Type}
/-- behind a block -/
def seqR (r : R (Out S B T)) (f : S → R (Out S' B T)) : R (Out S' B T) := r.bind fun o => match o with
  | .nx s => f s
  | .bk b => ret (.bk b)
  | .ct b => ret (.ct b)
  | .rt d t => ret (.rt d t)
/-- for x in items: .. -/
def forR {α : Type} (f : α → S → R (Out S S T)) : List α → S → R (Out S B T)
  | [], s => ret (.nx s)
  | x :: xs, s => (f x s).bind fun o => match o with
    | .nx s' => forR f xs s'
    | .ct s' => forR f xs s'
    | .bk s' => ret (.nx s')
    | .rt d t => ret (.rt d t)
/-- while .., at most so many turns -/
def whileR (c : S → R Bool) (f : S → R (Out S S T)) : Nat → S → R (Out S B T)
  | 0, _ => bad
  | n + 1, s => (c s).bind fun b => if b = true then ((f s).bind fun o => match o with
    | .nx s' => whileR c f n s'
    | .ct s' => whileR c f n s'
    | .bk s' => ret (.nx s')
    | .rt d t => ret (.rt d t)) else ret (.nx s)
/-- a def's end -/
def outD : Out Unit Empty T → R D
  | .nx _ => ret .none
  | .rt d _ => ret d
def endR0 (r : R (Out Unit Empty T)) : R D := r.bind outD
end
/-! ### lists by monads -/
def mapR {α β : Type} (f : α → R β) : List α → R (List β)
  | [] => ret []
  | x :: xs => (f x).bind fun y => (mapR f xs).bind fun ys => ret (y :: ys)
/-- no error may come of it -/
def nx {α : Type} : R α → R α
  | .ret a => .ret a
  | .exc _ _ => .bad
  | .bad => .bad
  | .pick n k => .pick n fun i => nx (k i)
@[simp] theorem nx_ret {α : Type} (a : α) : nx (R.ret a) = R.ret a := rfl
theorem wp_nx {α : Type} {Q : α → Prop} {E E' : Nat → D → Prop} : ∀ {r : R α}, wp Q E (nx r) → wp Q E' r
  | .ret a, h => h
  | .exc c x, h => h.elim
  | .bad, h => h
  | .pick n k, h => fun i a b => wp_nx (h i a b)
/-- a comprehension's list: the items that pass, mapped; acc: what is made so far -/
def compR {α β : Type} (c : α → R Bool) (f : α → R β) : List α → List β → R (List β)
  | [], acc => ret acc
  | x :: xs, acc => (nx (c x)).bind fun b => if b = true then ((nx (f x)).bind fun y => if acc.length < sizeLine then compR c f xs (acc ++ [y]) else bad) else compR c f xs acc
def yesR {α : Type} (_ : α) : R Bool := ret true
/-! ### operations on data -/
def boolR : D → R Bool
  | .bool b => ret b
  | _ => bad
/-- the truth of a value -/
def truR : D → R Bool
  | .none => ret false
  | .bool b => ret b
  | .int i => ret (i != 0)
  | .str x => if x.length ≤ sizeLine then ret (x.length != 0) else bad
  | .list xs => ret (!xs.isEmpty)
  | .tuple xs => ret (!xs.isEmpty)
  | _ => bad
def addR : D → D → R D
  | .int i, .int j => ret (.int (i + j))
  | .str i, .str j => if i.length + j.length ≤ sizeLine then ret (.str (i ++ j)) else bad
  | .tuple xs, .tuple ys => if xs.length + ys.length ≤ sizeLine then ret (.tuple (xs ++ ys)) else bad
  | .list xs, .list ys => if xs.length + ys.length ≤ sizeLine then ret (.list (xs ++ ys)) else bad
  | _, _ => bad
def subR : D → D → R D
  | .int i, .int j => ret (.int (i - j))
  | _, _ => bad
def mulOk (i j : Int) : Prop := (-(2 ^ 64) < i ∧ i < 2 ^ 64) ∨ (-(2 ^ 64) < j ∧ j < 2 ^ 64)
instance (i j : Int) : Decidable (mulOk i j) := by unfold mulOk; exact inferInstance
def mulR : D → D → R D
  | .int i, .int j => if mulOk i j then ret (.int (i * j)) else bad
  | .tuple xs, .int k => if xs ≠ [] ∧ 1 ≤ k ∧ k ≤ 1000 ∧ xs.length ≤ 1000 then ret (.tuple (List.replicate k.toNat xs).flatten) else bad
  | .list xs, .int k => if -(2 ^ 63) ≤ k ∧ k < 2 ^ 63 ∧ xs.length * k.toNat ≤ sizeLine then ret (.list (List.replicate k.toNat xs).flatten) else bad
  | _, _ => bad
def fdLine : Nat := 2 ^ 200
def CDivL (_ j : Int) : Prop := j ≠ 0 ∧ j.natAbs < fdLine
instance (i j : Int) : Decidable (CDivL i j) := by unfold CDivL; exact inferInstance
def fdivR : D → D → R D
  | .int i, .int j => if CDivL i j then ret (.int (i.fdiv j)) else bad
  | _, _ => bad
def modR : D → D → R D
  | .int i, .int j => if j ≠ 0 then ret (.int (i.fmod j)) else bad
  | _, _ => bad
def powR : D → D → R D
  | .int i, .int j => if 0 ≤ j ∧ j ≤ 1000000 ∧ i.natAbs < 2 ^ 64 then ret (.int (i ^ j.toNat)) else bad
  | _, _ => bad
def negR : D → R D
  | .int i => ret (.int (-i))
  | _ => bad
def ltR : D → D → R D
  | .int i, .int j => ret (.bool (decide (i < j)))
  | _, _ => bad
def leR : D → D → R D
  | .int i, .int j => ret (.bool (decide (i ≤ j)))
  | _, _ => bad
def gtR : D → D → R D
  | .int i, .int j => ret (.bool (decide (j < i)))
  | _, _ => bad
def geR : D → D → R D
  | .int i, .int j => ret (.bool (decide (j ≤ i)))
  | _, _ => bad
def eqR (x y : D) : R D := if SeqAt.shaped x = true ∧ SeqAt.shaped y = true then ret (.bool (PyData.eqv x y)) else bad
def neR (x y : D) : R D := if SeqAt.shaped x = true ∧ SeqAt.shaped y = true then ret (.bool (!PyData.eqv x y)) else bad
def isNone : D → Bool
  | .none => true
  | _ => false
/-- x is c, c None, True or False -/
def isR (x c : D) : R D := match c with
  | .none => ret (.bool (isNone x))
  | .bool b => (match x with | .bool a => ret (.bool (decide (a = b))) | _ => bad)
  | _ => bad
def isNotR (x c : D) : R D := match c with
  | .none => ret (.bool (!isNone x))
  | .bool b => (match x with | .bool a => ret (.bool (!decide (a = b))) | _ => bad)
  | _ => bad
def notR : D → R D
  | .bool b => ret (.bool (!b))
  | _ => bad
def lenR : D → R D
  | .str x => if x.length ≤ sizeLine then ret (.int x.length) else bad
  | .list xs => ret (.int xs.length)
  | .tuple xs => ret (.int xs.length)
  | _ => bad
def optR {α : Type} : Option α → R α
  | some a => ret a
  | none => bad
def ixR : D → D → R D
  | .list xs, .int i => optR (L2.atI xs i)
  | .tuple xs, .int i => optR (L2.atI xs i)
  | .str z, .int i => if z.length ≤ sizeLine then (match L2.atI z.cps.toList i with | some c => ret (.str ⟨#[c]⟩) | none => bad) else bad
  | _, _ => bad
def cutD (xs : List D) (lo hi : Option Int) : List D := (xs.drop (HT.sIx xs.length 0 lo)).take (HT.sIx xs.length xs.length hi - HT.sIx xs.length 0 lo)
def partR : D → R (Option Int)
  | .int i => ret (some i)
  | _ => bad
def sliceR (x : D) (lo hi : Option Int) : R D := match x with
  | .list xs => ret (.list (cutD xs lo hi))
  | .tuple xs => ret (.tuple (cutD xs lo hi))
  | .str z => if z.length ≤ sizeLine then ret (.str (L2.cutS z lo hi)) else bad
  | _ => bad
def tupleR : D → R D
  | .list xs => ret (.tuple xs)
  | .tuple xs => ret (.tuple xs)
  | _ => bad
def listR : D → R D
  | .list xs => ret (.list xs)
  | .tuple xs => ret (.list xs)
  | _ => bad
def absR : D → R D
  | .int i => ret (.int (if i < 0 then -i else i))
  | _ => bad
def maxR : D → D → R D
  | .int i, .int j => ret (.int (if j > i then j else i))
  | _, _ => bad
def minR : D → D → R D
  | .int i, .int j => ret (.int (if j < i then j else i))
  | _, _ => bad
def intR : D → R D
  | .int i => ret (.int i)
  | .bool b => ret (.int (if b then 1 else 0))
  | _ => bad
def intOf : D → Option Int
  | .int i => some i
  | _ => none
def boolOf : D → Option Bool
  | .bool b => some b
  | _ => none
def allSome {α β : Type} (f : α → Option β) : List α → Option (List β)
  | [] => some []
  | x :: xs => match f x, allSome f xs with
    | some y, some ys => some (y :: ys)
    | _, _ => none
def sumR : D → R D
  | .list xs => (match allSome intOf xs with | some ns => ret (.int ns.sum) | none => bad)
  | .tuple xs => (match allSome intOf xs with | some ns => ret (.int ns.sum) | none => bad)
  | _ => bad
def allR : D → R D
  | .list xs => (match allSome boolOf xs with | some bs => ret (.bool (bs.all id)) | none => bad)
  | _ => bad
def anyR : D → R D
  | .list xs => (match allSome boolOf xs with | some bs => ret (.bool (bs.any id)) | none => bad)
  | _ => bad
/-- what a for walks -/
def itemsR : D → R (List D)
  | .str z => ret (z.cps.toList.map fun c => PyData.str ⟨#[c]⟩)
  | .list xs => ret xs
  | .tuple xs => ret xs
  | _ => bad
def rangeL (lo : Int) (n : Nat) : List D := (List.range n).map fun (k : Nat) => PyData.int (lo + k)
def rng1R : D → R (List D)
  | .int j => if -(2 ^ 62) ≤ j ∧ j < 2 ^ 62 then ret (rangeL 0 j.toNat) else bad
  | _ => bad
def rng2R : D → D → R (List D)
  | .int i, .int j => if -(2 ^ 62) ≤ i ∧ i < 2 ^ 62 ∧ -(2 ^ 62) ≤ j ∧ j < 2 ^ 62 then ret (rangeL i (j - i).toNat) else bad
  | _, _ => bad
/-- a tuple of n items -/
def unpR (n : Nat) : D → R (List D)
  | .tuple xs => if xs.length = n then ret xs else bad
  | _ => bad
/-- the name of a value's type -/
def tyN : D → String
  | .none => "NoneType"
  | .bool _ => "bool"
  | .int _ => "int"
  | .str _ => "str"
  | .list _ => "list"
  | .tuple _ => "tuple"
  | .dict _ => "dict"
def isiR (T : String) (d : D) : R D := match L2.kitB (tyN d) T with
  | some b => ret (.bool b)
  | none => bad
/-- a draw -/
def drawR : D → R D
  | .int n => if 0 < n then pick n fun i => ret (.int i) else bad
  | _ => bad
end Pu
/-! Pdr: where the draws stand (a box). -/
namespace Pu
open PySem PySem.Spec PyProof.Rows L2 R
theorem rd_imp {H H' : Hp} {a : Addr} {u : HO} (h : Rd H a u) (f : ∀ x, H a = some x → H' a = some x) : Rd H' a u := h.imp (f _) fun ⟨o, z⟩ => ⟨o, f _ z⟩
/-- an object stands there, no tuple -/
def Bd (H : Hp) (b : Addr) : Prop := ∃ o, H b = some o ∧ ∀ xs, o ≠ HO.tup xs
/-- a code object's table, whatever stands in it -/
def TabF (P : Addr) : HO := .ext fun h => ∃ ps : Array Value, h.get? P = some { cls := .none, data := .fields ps } ∧ TriplesOk ps.toList
/-- the tables of the named defs -/
def KTab (K : PySem.W.Frag) (P : Addr) : Prop := ∃ x, x ∈ TNames ∧ ∃ c, PySem.W.tabIn K x = some (c, P)
def TbOk (K : PySem.W.Frag) (H : Hp) : Prop := ∀ P, KTab K P → H P = some (TabF P)
theorem TbOk.same {K : PySem.W.Frag} {H H' : Hp} (t : TbOk K H) (s : ∀ b o, H b = some o → H' b = some o) : TbOk K H' := fun P h => s _ _ (t P h)
/-- the draws: a list with the cells that are left, and three numbers -/
def DrAt (H : Hp) (a l : Addr) : Prop := ∃ (cells : List Int) (x s m : Int), H a = some (.lst [V.ref l, V.int x, V.int s, V.int m]) ∧ H l = some (.lst (cells.map V.int)) ∧ cells.length ≤ 63
theorem DrAt.imp {H H' : Hp} {a l : Addr} (h : DrAt H a l) (ha : ∀ o, H a = some o → H' a = some o) (hl : ∀ o, H l = some o → H' l = some o) : DrAt H' a l := by
  obtain ⟨c, x, s, m, h1, h2, h3⟩ := h
  exact ⟨c, x, s, m, ha _ h1, hl _ h2, h3⟩
theorem DrAt.bd {H : Hp} {a l : Addr} (h : DrAt H a l) : Bd H a := by
  obtain ⟨_, _, _, _, e, _⟩ := h
  exact ⟨_, e, fun _ z => nomatch z⟩
theorem DrAt.bdl {H : Hp} {a l : Addr} (h : DrAt H a l) : Bd H l := by
  obtain ⟨_, _, _, _, _, e, _⟩ := h
  exact ⟨_, e, fun _ z => nomatch z⟩
theorem DrAt.nox {H : Hp} {a l b : Addr} {fs : List (Str × V)} (h : DrAt H a l) (z : b = a ∨ b = l) (e : H b = some (.xd fs)) : False := by
  obtain ⟨_, _, _, _, e1, e2, _⟩ := h
  rcases z with rfl | rfl
  · rw [e] at e1; cases e1
  · rw [e] at e2; cases e2
theorem DrAt.noT {H : Hp} {a l b : Addr} (h : DrAt H a l) (z : b = a ∨ b = l) (e : H b = some (TabF b)) : False := by
  obtain ⟨_, _, _, _, e1, e2, _⟩ := h
  rcases z with rfl | rfl
  · rw [e] at e1; cases e1
  · rw [e] at e2; cases e2
end Pu
/-! Pu: the walk by data: what stands in the slots as plain data, expressions and blocks that compute results of Pd, over the hand layer's readings. -/
namespace Pu
open PySem PySem.Spec PyProof.Rows L2 R
/-! ### what stands at a value -/
/-- a tuple that stays -/
def TpS (K : PySem.W.Frag) (B : Addr → Prop) (H : Hp) (a : Addr) (xs : List V) : Prop := H a = some (.tup xs) ∧ ¬ B a
theorem TpS.sq {K : PySem.W.Frag} {B : Addr → Prop} {H : Hp} {a : Addr} {xs : List V} (h : TpS K B H a xs) : SqT K H a xs := .inl (.inl h.1)
mutual
inductive Rep (K : PySem.W.Frag) (B : Addr → Prop) (H : Hp) : V → D → Prop
  | non : Rep K B H .non .none
  | bl (b : Bool) : Rep K B H (.bl b) (.bool b)
  | int (i : Int) : Rep K B H (.int i) (.int i)
  | str (x : Str) : Rep K B H (.str x) (.str x)
  | tup {a : Addr} {vs : List V} {ds : List D} : TpS K B H a vs → Reps K B H vs ds → Rep K B H (.ref a) (.tuple ds)
  | lst {a : Addr} {vs : List V} {ds : List D} : Rd H a (.lst vs) → ¬ B a → Reps K B H vs ds → Rep K B H (.ref a) (.list ds)
inductive Reps (K : PySem.W.Frag) (B : Addr → Prop) (H : Hp) : List V → List D → Prop
  | nil : Reps K B H [] []
  | cons {v : V} {vs : List V} {d : D} {ds : List D} : Rep K B H v d → Reps K B H vs ds → Reps K B H (v :: vs) (d :: ds)
end
/-- what stays: all but the banned -/
def Stay (B : Addr → Prop) (H H' : Hp) : Prop := ∀ b o, H b = some o → ¬ B b → H' b = some o
theorem Stay.refl (B : Addr → Prop) (H : Hp) : Stay B H H := fun _ _ h _ => h
theorem TpS.stay {K : PySem.W.Frag} {B : Addr → Prop} {H H' : Hp} {a : Addr} {vs : List V} (h : TpS K B H a vs) (s : Stay B H H') : TpS K B H' a vs := ⟨s _ _ h.1 h.2, h.2⟩
theorem TpS.ban {K : PySem.W.Frag} {B B' : Addr → Prop} {H : Hp} {a : Addr} {vs : List V} (h : TpS K B H a vs) (s : ∀ b, B' b → B b ∨ H b = none) : TpS K B' H a vs := by
  refine ⟨h.1, fun z => ?_⟩
  rcases s _ z with z | z
  · exact h.2 z
  · rw [h.1] at z; cases z
section
variable {K : PySem.W.Frag} {B B' : Addr → Prop} {H H' : Hp}
mutual
theorem Rep.stay (s : Stay B H H') : ∀ {d : D} {v : V}, Rep K B H v d → Rep K B H' v d
  | .none, _, h => by cases h; exact .non
  | .bool b, _, h => by cases h; exact .bl b
  | .int i, _, h => by cases h; exact .int i
  | .str x, _, h => by cases h; exact .str x
  | .tuple ds, _, h => by
    cases h with
    | tup a c => exact .tup (a.stay s) (Reps.stay s c)
  | .list ds, _, h => by
    cases h with
    | lst a b c => exact .lst (a.imp (fun z => s _ _ z b) fun ⟨o, z⟩ => ⟨o, s _ _ z b⟩) b (Reps.stay s c)
  | .dict _, _, h => by cases h
theorem Reps.stay (s : Stay B H H') : ∀ {ds : List D} {vs : List V}, Reps K B H vs ds → Reps K B H' vs ds
  | [], _, h => by cases h; exact .nil
  | d :: ds, _, h => by
    cases h with
    | cons a b => exact .cons (Rep.stay s a) (Reps.stay s b)
end
mutual
theorem Rep.weak (hb : ∀ b, B' b → B b) : ∀ {d : D} {v : V}, Rep K B H v d → Rep K B' H v d
  | .none, _, h => by cases h; exact .non
  | .bool b, _, h => by cases h; exact .bl b
  | .int i, _, h => by cases h; exact .int i
  | .str x, _, h => by cases h; exact .str x
  | .tuple ds, _, h => by
    cases h with
    | tup a c => exact .tup (a.ban fun b z => .inl (hb b z)) (Reps.weak hb c)
  | .list ds, _, h => by
    cases h with
    | lst a b c => exact .lst a (fun z => b (hb _ z)) (Reps.weak hb c)
  | .dict _, _, h => by cases h
theorem Reps.weak (hb : ∀ b, B' b → B b) : ∀ {ds : List D} {vs : List V}, Reps K B H vs ds → Reps K B' H vs ds
  | [], _, h => by cases h; exact .nil
  | d :: ds, _, h => by
    cases h with
    | cons a b => exact .cons (Rep.weak hb a) (Reps.weak hb b)
end
mutual
/-- a place of which nothing was known may be banned -/
theorem Rep.ban (hb : ∀ b, B' b → B b ∨ H b = Option.none) : ∀ {d : D} {v : V}, Rep K B H v d → Rep K B' H v d
  | .none, _, h => by cases h; exact .non
  | .bool b, _, h => by cases h; exact .bl b
  | .int i, _, h => by cases h; exact .int i
  | .str x, _, h => by cases h; exact .str x
  | .tuple ds, _, h => by
    cases h with
    | tup a c => exact .tup (a.ban hb) (Reps.ban hb c)
  | .list ds, _, h => by
    cases h with
    | lst a b c =>
      refine .lst a (fun z => ?_) (Reps.ban hb c)
      rcases hb _ z with z | z
      · exact b z
      · rcases a with a | ⟨o, a⟩ <;> (rw [z] at a; cases a)
  | .dict _, _, h => by cases h
theorem Reps.ban (hb : ∀ b, B' b → B b ∨ H b = Option.none) : ∀ {ds : List D} {vs : List V}, Reps K B H vs ds → Reps K B' H vs ds
  | [], _, h => by cases h; exact .nil
  | d :: ds, _, h => by
    cases h with
    | cons a b => exact .cons (Rep.ban hb a) (Reps.ban hb b)
end
theorem Reps.length : ∀ {ds : List D} {vs : List V}, Reps K B H vs ds → vs.length = ds.length
  | [], _, h => by cases h; rfl
  | d :: ds, _, h => by
    cases h with
    | cons a b => simp [Reps.length b]
theorem Reps.get : ∀ {ds : List D} {vs : List V} {i : Nat} {d : D}, Reps K B H vs ds → ds[i]? = some d → ∃ v, vs[i]? = some v ∧ Rep K B H v d
  | [], _, _, _, h, e => by simp at e
  | x :: ds, _, 0, d, h, e => by
    cases h with
    | cons a b => simp at e; subst e; exact ⟨_, rfl, a⟩
  | x :: ds, _, i + 1, d, h, e => by
    cases h with
    | cons a b =>
      obtain ⟨v, h1, h2⟩ := Reps.get (i := i) b (by simpa using e)
      exact ⟨v, by simpa using h1, h2⟩
theorem Reps.append : ∀ {ds es : List D} {vs ws : List V}, Reps K B H vs ds → Reps K B H ws es → Reps K B H (vs ++ ws) (ds ++ es)
  | [], _, _, _, h, q => by cases h; exact q
  | x :: ds, _, _, _, h, q => by
    cases h with
    | cons a b => exact .cons a (Reps.append b q)
theorem Reps.take : ∀ {ds : List D} {vs : List V} (n : Nat), Reps K B H vs ds → Reps K B H (vs.take n) (ds.take n)
  | _, _, 0, _ => .nil
  | [], _, _ + 1, h => by cases h; exact .nil
  | x :: ds, _, n + 1, h => by
    cases h with
    | cons a b => exact .cons a (Reps.take n b)
theorem Reps.drop : ∀ {ds : List D} {vs : List V} (n : Nat), Reps K B H vs ds → Reps K B H (vs.drop n) (ds.drop n)
  | _, _, 0, h => h
  | [], _, _ + 1, h => by cases h; exact .nil
  | x :: ds, _, n + 1, h => by
    cases h with
    | cons a b => exact Reps.drop n b
theorem Reps.set : ∀ {ds : List D} {vs : List V} {v : V} {d : D} (i : Nat), Rep K B H v d → Reps K B H vs ds → Reps K B H (vs.set i v) (ds.set i d)
  | [], _, _, _, _, _, h => by cases h; exact .nil
  | x :: ds, _, _, _, 0, r, h => by
    cases h with
    | cons a b => exact .cons r b
  | x :: ds, _, _, _, i + 1, r, h => by
    cases h with
    | cons a b => exact .cons a (Reps.set i r b)
theorem Reps.rep {ds : List D} {vs : List V} (h : Reps K B H vs ds) : ∀ n : Nat, Reps K B H (List.replicate n vs).flatten (List.replicate n ds).flatten
  | 0 => .nil
  | n + 1 => by
    rw [List.replicate_succ, List.replicate_succ, List.flatten_cons, List.flatten_cons]
    exact h.append (h.rep n)
mutual
theorem Rep.dp : ∀ {d : D} {v : V}, Rep K B H v d → Dp K H v d
  | .none, _, h => by cases h; exact .non
  | .bool b, _, h => by cases h; exact .bl b
  | .int i, _, h => by cases h; exact .int i
  | .str x, _, h => by cases h; exact .str x
  | .tuple ds, _, h => by
    cases h with
    | tup a c => exact .tup a.sq (Reps.dp c)
  | .list ds, _, h => by
    cases h with
    | lst a b c => exact .lst (.inl a) (Reps.dp c)
  | .dict _, _, h => by cases h
theorem Reps.dp : ∀ {ds : List D} {vs : List V}, Reps K B H vs ds → DpAll K H vs ds
  | [], _, h => by cases h; exact .nil
  | d :: ds, _, h => by
    cases h with
    | cons a b => exact .cons (Rep.dp a) (Reps.dp b)
end
end
/-- a list of the module -/
def KL (K : PySem.W.Frag) (a : Addr) (xs : List V) : Prop := ∃ (o : Obj) (its : Array Value) (n : Nat), K.lookup a = some o ∧ o.cls = .type "list" ∧ o.dict = none ∧ o.data = .seq its n ∧ its.size ≤ sizeLine ∧ Vals xs its.toList
abbrev Drs := Option (Addr × Addr)
/-- one of the draws' objects -/
def Has (dr : Drs) (b : Addr) : Prop := ∃ a l, dr = some (a, l) ∧ (b = a ∨ b = l)
theorem has_none {b : Addr} : ¬ Has none b := fun ⟨_, _, h, _⟩ => nomatch h
/-- as Rep, the outermost list may be one that is owned -/
def RepB (K : PySem.W.Frag) (dr : Drs) (B : Addr → Prop) (H : Hp) (v : V) (d : D) : Prop := Rep K B H v d ∨ ∃ a vs ds, v = .ref a ∧ d = .list ds ∧ (H a = some (.lst vs) ∧ ¬ Has dr a) ∧ Reps K B H vs ds
section
variable {K : PySem.W.Frag} {dr : Drs} {B : Addr → Prop} {H : Hp} {v : V} {d : D} {ds : List D}
theorem RepB.dp (h : RepB K dr B H v d) : Dp K H v d := by
  rcases h with h | ⟨a, vs, ds, rfl, rfl, e, r⟩
  · exact h.dp
  · exact .lst (.inl (.inl e.1)) r.dp
theorem RepB.b (h : RepB K dr B H v d) : RepB K none B H v d := h.imp id fun ⟨a, vs, ds, e1, e2, e3, r⟩ => ⟨a, vs, ds, e1, e2, ⟨e3.1, has_none⟩, r⟩
theorem RepB.list (h : RepB K dr B H v (.list ds)) : ∃ a vs, v = .ref a ∧ Rd H a (.lst vs) ∧ Reps K B H vs ds := by
  rcases h with h | ⟨a, vs, ds', rfl, e, h, r⟩
  · cases h with
    | lst a b c => exact ⟨_, _, rfl, a, c⟩
  · cases e; exact ⟨a, vs, rfl, .inl h.1, r⟩
theorem RepB.tuple (h : RepB K dr B H v (.tuple ds)) : ∃ a vs, v = .ref a ∧ TpS K B H a vs ∧ Reps K B H vs ds := by
  rcases h with h | ⟨a, vs, ds', rfl, e, h, r⟩
  · cases h with
    | tup a c => exact ⟨_, _, rfl, a, c⟩
  · cases e
theorem Rep.tuple (h : Rep K B H v (.tuple ds)) : ∃ a vs, v = .ref a ∧ TpS K B H a vs ∧ Reps K B H vs ds := RepB.tuple (dr := none) (.inl h)
theorem RepB.int {i : Int} (h : RepB K dr B H v (.int i)) : v = .int i := by
  rcases h with h | ⟨a, vs, ds', rfl, e, h, r⟩
  · cases h; rfl
  · cases e
theorem RepB.str {i : Str} (h : RepB K dr B H v (.str i)) : v = .str i := by
  rcases h with h | ⟨a, vs, ds', rfl, e, h, r⟩
  · cases h; rfl
  · cases e
theorem RepB.bool {i : Bool} (h : RepB K dr B H v (.bool i)) : v = .bl i := by
  rcases h with h | ⟨a, vs, ds', rfl, e, h, r⟩
  · cases h; rfl
  · cases e
theorem RepB.non (h : RepB K dr B H v .none) : v = .non := by
  rcases h with h | ⟨a, vs, ds', rfl, e, h, r⟩
  · cases h; rfl
  · cases e
theorem RepB.nodict {kvs : List (D × D)} (h : RepB K dr B H v (.dict kvs)) : False := by
  rcases h with h | ⟨a, vs, ds', rfl, e, h, r⟩
  · cases h
  · cases e
end
/-! ### the draws' dict -/
/-- the heap grows; the draws may have turned -/
structure Grow (dr : Drs) (H H' : Hp) : Prop where
  keep : ∀ b o, H b = some o → ¬ Has dr b → H' b = some o
  draw : ∀ a l, dr = some (a, l) → DrAt H a l → DrAt H' a l
theorem Grow.refl (dr : Drs) (H : Hp) : Grow dr H H := ⟨fun _ _ h _ => h, fun _ _ _ h => h⟩
theorem Grow.trans {dr : Drs} {H H1 H2 : Hp} (a : Grow dr H H1) (b : Grow dr H1 H2) : Grow dr H H2 := ⟨fun c o h n => b.keep c o (a.keep c o h n) n, fun c l e h => b.draw c l e (a.draw c l e h)⟩
theorem Grow.same {dr : Drs} {H H' : Hp} (s : Same H H') : Grow dr H H' := ⟨fun b o h _ => s b o h, fun a l _ h => h.imp (s a) (s l)⟩
theorem same_upd {H : Hp} {p : Addr} {o : HO} (h : H p = none) : Same H (upd H p o) := fun b x e => by
  rw [upd_ne (ne_of_none e h)]; exact e
/-! ### slots -/
/-- what an object of a def's own holds: a list, a dict by ints and texts, a dict by tuples of these -/
inductive Ct where
  | l (xs : List D) | k (kvs : List (Key × D)) | t (kvs : List (List Key × D))
def HasCt (K : PySem.W.Frag) (B : Addr → Prop) (H : Hp) (a : Addr) : Ct → Prop
  | .l ds => ∃ vs, H a = some (.lst vs) ∧ Reps K B H vs ds
  | .k kvs => ∃ vs : List (Key × V), H a = some (.dK vs) ∧ Paired (fun (p : Key × V) (q : Key × D) => p.1 = q.1 ∧ Rep K B H p.2 q.2) vs kvs
  | .t kvs => ∃ vs : List (List Key × V), H a = some (.dT vs) ∧ Paired (fun (p : List Key × V) (q : List Key × D) => p.1 = q.1 ∧ Rep K B H p.2 q.2) vs kvs
inductive Sl where
  | no | d (x : D) | l (xs : List D) | k (kvs : List (Key × D)) | kt (kvs : List (List Key × D)) | w | s (xs : List D) | b (c : Ct) | e (a : Addr) (d : Option (Addr × Str × D)) | f (kvs : List (Key × D))
def Sl.own : Sl → Bool
  | .l _ => true
  | .k _ => true
  | .kt _ => true
  | _ => false
def Own (ρ : List Sl) (i : Nat) : Prop := ∃ s, ρ[i]? = some s ∧ s.own = true
def OwnA (ρ : List Sl) (ad : Nat → Addr) (b : Addr) : Prop := ∃ i, Own ρ i ∧ ad i = b
def Ban (F : Addr → Prop) (ρ : List Sl) (ad : Nat → Addr) (b : Addr) : Prop := F b ∨ OwnA ρ ad b
def SlOk (K : PySem.W.Frag) (dr : Drs) (F B : Addr → Prop) (H : Hp) (x : Option (Option V)) (a : Addr) : Sl → Prop
  | .no => True
  | .d d => ∃ v, x = some (some v) ∧ Rep K B H v d
  | .l ds => x = some (some (.ref a)) ∧ ∃ vs, H a = some (.lst vs) ∧ Reps K B H vs ds
  | .k kvs => x = some (some (.ref a)) ∧ ∃ vs : List (Key × V), H a = some (.dK vs) ∧ Paired (fun (p : Key × V) (q : Key × D) => p.1 = q.1 ∧ Rep K B H p.2 q.2) vs kvs
  | .kt kvs => x = some (some (.ref a)) ∧ ∃ vs : List (List Key × V), H a = some (.dT vs) ∧ Paired (fun (p : List Key × V) (q : List Key × D) => p.1 = q.1 ∧ Rep K B H p.2 q.2) vs kvs
  | .w => ∃ b l, dr = some (b, l) ∧ x = some (some (.ref b))
  | .s ds => ∃ a vs, x = some (some (.ref a)) ∧ ((Rd H a (.lst vs) ∧ ¬ B a) ∨ KL K a vs) ∧ Reps K B H vs ds
  | .b c => ∃ e, x = some (some (.ref e)) ∧ F e ∧ ¬ Has dr e ∧ HasCt K B H e c
  | .e a' d => x = some (some (.ref a')) ∧ ∀ dd f y, d = some (dd, f, y) → F dd ∧ ¬ Has dr dd ∧ ∃ v, H dd = some (.xd [(f, v)]) ∧ Rep K B H v y
  | .f kvs => ∃ e o, ∃ vs : List (Key × V), x = some (some (.ref e)) ∧ F e ∧ ¬ Has dr e ∧ H e = some (.frz o (.dK vs)) ∧ Paired (fun (p : Key × V) (q : Key × D) => p.1 = q.1 ∧ Rep K B H p.2 q.2) vs kvs
structure StOk (K : PySem.W.Frag) (dr : Drs) (F : Addr → Prop) (ρ : List Sl) (σ : L2.St) (H : Hp) (ad : Nat → Addr) : Prop where
  len : σ.length = ρ.length
  inj : ∀ i j, Own ρ i → Own ρ j → ad i = ad j → i = j
  nf : ∀ i, Own ρ i → ¬ F (ad i)
  fa : ∀ b, F b → Bd H b
  dk : ∀ a l, dr = some (a, l) → F a ∧ F l ∧ l ≠ a ∧ DrAt H a l
  tb : TbOk K H
  sl : ∀ (i : Nat) (s : Sl), ρ[i]? = some s → SlOk K dr F (Ban F ρ ad) H σ[i]? (ad i) s
theorem paired_mono {α β : Type} {F G : α → β → Prop} (h : ∀ a b, F a b → G a b) : ∀ {l₁ : List α} {l₂ : List β}, Paired F l₁ l₂ → Paired G l₁ l₂
  | _, _, .nil => .nil
  | _, _, .cons r t => .cons (h _ _ r) (paired_mono h t)
section
variable {K : PySem.W.Frag} {dr : Drs} {F : Addr → Prop} {ρ ρ' : List Sl} {σ σ' : L2.St} {H H' : Hp} {ad ad' : Nat → Addr}
theorem HasCt.mono {B B' : Addr → Prop} {H H' : Hp} {a : Addr} {c : Ct} (h : HasCt K B H a c) (hr : ∀ v d, Rep K B H v d → Rep K B' H' v d) (hrs : ∀ vs ds, Reps K B H vs ds → Reps K B' H' vs ds) (ho : ∀ o, H a = some o → H' a = some o) : HasCt K B' H' a c := by
  cases c with
  | l xs => obtain ⟨vs, e2, r⟩ := h; exact ⟨vs, ho _ e2, hrs _ _ r⟩
  | k kvs => obtain ⟨vs, e2, r⟩ := h; exact ⟨vs, ho _ e2, paired_mono (fun _ _ z => ⟨z.1, hr _ _ z.2⟩) r⟩
  | t kvs => obtain ⟨vs, e2, r⟩ := h; exact ⟨vs, ho _ e2, paired_mono (fun _ _ z => ⟨z.1, hr _ _ z.2⟩) r⟩
theorem HasCt.some {B : Addr → Prop} {H : Hp} {a : Addr} {c : Ct} (h : HasCt K B H a c) : ∃ o, H a = some o := by
  cases c with
  | l xs => obtain ⟨vs, e2, r⟩ := h; exact ⟨_, e2⟩
  | k kvs => obtain ⟨vs, e2, r⟩ := h; exact ⟨_, e2⟩
  | t kvs => obtain ⟨vs, e2, r⟩ := h; exact ⟨_, e2⟩
theorem SlOk.mono {F F' B B' : Addr → Prop} {x : Option (Option V)} {a : Addr} {s : Sl} (h : SlOk K dr F B H x a s) (hr : ∀ v d, Rep K B H v d → Rep K B' H' v d) (hrs : ∀ vs ds, Reps K B H vs ds → Reps K B' H' vs ds) (ho : s.own = true → ∀ o, H a = some o → H' a = some o)
    (hF : ∀ e, F e → F' e := by exact fun _ z => z) (hf : ∀ e o, F e → ¬ Has dr e → H e = some o → H' e = some o := by exact fun _ _ _ _ z => z) : SlOk K dr F' B' H' x a s := by
  cases s with
  | no => trivial
  | d x => obtain ⟨v, e, r⟩ := h; exact ⟨v, e, hr _ _ r⟩
  | l xs => obtain ⟨e, vs, e2, r⟩ := h; exact ⟨e, vs, ho rfl _ e2, hrs _ _ r⟩
  | k kvs => obtain ⟨e, vs, e2, r⟩ := h; exact ⟨e, vs, ho rfl _ e2, paired_mono (fun _ _ z => ⟨z.1, hr _ _ z.2⟩) r⟩
  | kt kvs => obtain ⟨e, vs, e2, r⟩ := h; exact ⟨e, vs, ho rfl _ e2, paired_mono (fun _ _ z => ⟨z.1, hr _ _ z.2⟩) r⟩
  | w => exact h
  | s xs =>
    obtain ⟨a, vs, e, ⟨r1, r2⟩ | r, rs⟩ := h
    · have z := hr _ _ (Rep.lst r1 r2 rs)
      cases z with
      | lst b1 b2 b3 => exact ⟨a, _, e, .inl ⟨b1, b2⟩, b3⟩
    · exact ⟨a, vs, e, .inr r, hrs _ _ rs⟩
  | b c =>
    obtain ⟨e, h1, h2, h3, h4⟩ := h
    exact ⟨e, h1, hF _ h2, h3, h4.mono hr hrs fun o => hf e o h2 h3⟩
  | e a' d =>
    refine ⟨h.1, fun dd f y e => ?_⟩
    obtain ⟨h1, h2, v, h3, h4⟩ := h.2 dd f y e
    exact ⟨hF _ h1, h2, v, hf _ _ h1 h2 h3, hr _ _ h4⟩
  | f kvs =>
    obtain ⟨e, o, vs, h1, h2, h3, h4, h5⟩ := h
    exact ⟨e, o, vs, h1, hF _ h2, h3, hf _ _ h2 h3 h4, paired_mono (fun _ _ z => ⟨z.1, hr _ _ z.2⟩) h5⟩
theorem SlOk.at (h : StOk K dr F ρ σ H ad) {i : Nat} {d : D} (e : ρ[i]? = some (.d d)) : ∃ v, σ[i]? = some (some v) ∧ Rep K (Ban F ρ ad) H v d := h.sl i _ e
/-- the owned stand there -/
theorem StOk.there (h : StOk K dr F ρ σ H ad) {i : Nat} (o : Own ρ i) : Bd H (ad i) := by
  obtain ⟨s, e, q⟩ := o
  have z := h.sl i s e
  cases s with
  | no => cases q
  | d x => cases q
  | l xs => obtain ⟨_, vs, e2, _⟩ := z; exact ⟨_, e2, fun _ z => nomatch z⟩
  | k xs => obtain ⟨_, vs, e2, _⟩ := z; exact ⟨_, e2, fun _ z => nomatch z⟩
  | kt xs => obtain ⟨_, vs, e2, _⟩ := z; exact ⟨_, e2, fun _ z => nomatch z⟩
  | w => cases q
  | s xs => cases q
  | b c => cases q
  | e a' d => cases q
  | f kvs => cases q
theorem StOk.ownT (h : StOk K dr F ρ σ H ad) {i : Nat} (o : Own ρ i) {P : Addr} (e : H (ad i) = some (TabF P)) : False := by
  obtain ⟨s, e1, q⟩ := o
  have z := h.sl i s e1
  cases s with
  | no => cases q
  | d x => cases q
  | l xs => obtain ⟨_, vs, e2, _⟩ := z; rw [e] at e2; cases e2
  | k xs => obtain ⟨_, vs, e2, _⟩ := z; rw [e] at e2; cases e2
  | kt xs => obtain ⟨_, vs, e2, _⟩ := z; rw [e] at e2; cases e2
  | w => cases q
  | s xs => cases q
  | b c => cases q
  | e a' d => cases q
  | f kvs => cases q
theorem StOk.tbU (h : StOk K dr F ρ σ H ad) {i : Nat} (o : Own ρ i) (u : HO) : TbOk K (upd H (ad i) u) := fun P k => by
  rw [upd_ne fun z => h.ownT o (by rw [← z]; exact h.tb P k)]
  exact h.tb P k
theorem StOk.banned (h : StOk K dr F ρ σ H ad) {b : Addr} (q : Ban F ρ ad b) : Bd H b := by
  rcases q with q | ⟨i, o, rfl⟩
  · exact h.fa b q
  · exact h.there o
/-- what stands at foreign places; the tables -/
structure Fo (K : PySem.W.Frag) (H : Hp) (B : Addr → Prop) : Prop where
  b : ∀ b, B b → Bd H b
  t : TbOk K H
theorem StOk.fo (h : StOk K dr F ρ σ H ad) : Fo K H (Ban F ρ ad) := ⟨fun _ z => h.banned z, h.tb⟩
theorem StOk.fof (h : StOk K dr F ρ σ H ad) : Fo K H F := ⟨h.fa, h.tb⟩
theorem StOk.dF (h : StOk K dr F ρ σ H ad) {b : Addr} (e : Has dr b) : F b := by
  obtain ⟨a, l, e, z⟩ := e
  obtain ⟨f1, f2, _⟩ := h.dk a l e
  rcases z with rfl | rfl
  · exact f1
  · exact f2
theorem StOk.drF (h : StOk K dr F ρ σ H ad) {a : Addr} (e : Has dr a) : Ban F ρ ad a := .inl (h.dF e)
theorem StOk.drB (h : StOk K dr F ρ σ H ad) (g : Grow dr H H') {b : Addr} (e : Has dr b) : Bd H' b := by
  obtain ⟨a, l, e, z⟩ := e
  obtain ⟨_, _, _, q⟩ := h.dk a l e
  have q := g.draw a l e q
  rcases z with rfl | rfl
  · exact q.bd
  · exact q.bdl
theorem StOk.stays (h : StOk K dr F ρ σ H ad) (g : Grow dr H H') : Stay (Ban F ρ ad) H H' := fun b o e nb => g.keep b o e fun z => nb (h.drF z)
theorem StOk.grow (h : StOk K dr F ρ σ H ad) (g : Grow dr H H') : StOk K dr F ρ σ H' ad := by
  refine ⟨h.len, h.inj, h.nf, fun b q => ?_, fun a l e => ?_, fun P k => g.keep _ _ (h.tb P k) fun ⟨a, l, e, z⟩ => (h.dk a l e).2.2.2.noT z (h.tb P k), fun i s e => ?_⟩
  · obtain ⟨o, e, nt⟩ := h.fa b q
    by_cases z : Has dr b
    · exact h.drB g z
    · exact ⟨o, g.keep b o e z, nt⟩
  · obtain ⟨f, fl, ne, q⟩ := h.dk a l e
    exact ⟨f, fl, ne, g.draw a l e q⟩
  · have st := h.stays g
    refine (h.sl i s e).mono (fun v d r => r.stay st) (fun vs ds r => r.stay st) (fun hs o ho => g.keep _ o ho fun z => ?_) (fun _ z => z) (fun e o _ n eo => g.keep e o eo n)
    exact h.nf i ⟨s, e, hs⟩ (h.dF z)
theorem free_grow (h : StOk K dr F ρ σ H ad) (g : Grow dr H H') {p : Addr} (e : H' p = none) : H p = none := by
  cases q : H p with
  | none => rfl
  | some o =>
    by_cases z : Has dr p
    · obtain ⟨o', e', _⟩ := h.drB g z
      rw [e] at e'; cases e'
    · rw [g.keep p o q z] at e; cases e
/-- less is told -/
def Le (ρ' ρ : List Sl) : Prop := ρ'.length = ρ.length ∧ ∀ (i : Nat) (s : Sl), ρ'[i]? = some s → s = Sl.no ∨ ρ[i]? = some s ∨ ∃ xs, s = Sl.d (.list xs) ∧ ρ[i]? = some (Sl.l xs)
theorem Le.refl (ρ : List Sl) : Le ρ ρ := ⟨rfl, fun _ _ e => .inr (.inl e)⟩
theorem le_nil : Le [] [] := ⟨rfl, fun _ _ e => by simp at e⟩
theorem le_eq {s : Sl} (h : Le ρ' ρ) : Le (s :: ρ') (s :: ρ) := ⟨by simp [h.1], fun i t e => by
  cases i with
  | zero => exact .inr (.inl e)
  | succ i => exact h.2 i t (by simpa using e)⟩
theorem le_no {s : Sl} (h : Le ρ' ρ) : Le (.no :: ρ') (s :: ρ) := ⟨by simp [h.1], fun i t e => by
  cases i with
  | zero => simp at e; exact .inl e.symm
  | succ i => exact h.2 i t (by simpa using e)⟩
theorem le_fz {xs : List D} (h : Le ρ' ρ) : Le (.d (.list xs) :: ρ') (.l xs :: ρ) := ⟨by simp [h.1], fun i t e => by
  cases i with
  | zero => simp at e; exact .inr (.inr ⟨xs, e.symm, rfl⟩)
  | succ i => exact h.2 i t (by simpa using e)⟩
theorem Le.own (l : Le ρ' ρ) {i : Nat} (o : Own ρ' i) : Own ρ i := by
  obtain ⟨s, e, q⟩ := o
  rcases l.2 i s e with rfl | z | ⟨xs, rfl, _⟩
  · cases q
  · exact ⟨s, z, q⟩
  · cases q
theorem Le.ban (l : Le ρ' ρ) {b : Addr} (o : Ban F ρ' ad b) : Ban F ρ ad b := by
  rcases o with o | ⟨i, o, e⟩
  · exact .inl o
  · exact .inr ⟨i, l.own o, e⟩
theorem StOk.le (h : StOk K dr F ρ σ H ad) (l : Le ρ' ρ) : StOk K dr F ρ' σ H ad := by
  refine ⟨h.len.trans l.1.symm, fun i j a b => h.inj i j (l.own a) (l.own b), fun i a => h.nf i (l.own a), h.fa, h.dk, h.tb, fun i s e => ?_⟩
  rcases l.2 i s e with rfl | z | ⟨xs, rfl, z⟩
  · trivial
  · exact (h.sl i s z).mono (fun v d r => r.weak fun b => l.ban) (fun v d r => r.weak fun b => l.ban) fun _ _ q => q
  · obtain ⟨e1, vs, e2, r⟩ := h.sl i _ z
    refine ⟨.ref (ad i), e1, .lst (.inl e2) (fun q => ?_) (r.weak fun b => l.ban)⟩
    rcases q with q | ⟨j, o, ej⟩
    · exact h.nf i ⟨_, z, rfl⟩ q
    · have ij : j = i := h.inj j i (l.own o) ⟨_, z, rfl⟩ ej
      subst ij
      obtain ⟨s', e', q'⟩ := o
      rw [e] at e'
      cases e'
      cases q'
end
end Pu
/-! Pe: expressions that compute results. -/
namespace Pu
open PySem PySem.Spec PyProof.Rows L2 R
/-- what is fixed in a def: the draws' place, the wish for errors, the errors' classes, the slots that keep their places -/
structure Wd where
  dr : Drs
  W : XK
  xc : Nat → Value × Option Str
  pin : Nat → Bool
  own : Bool
  cm : Bool
/-- no exception is being handled -/
class Calm (wd : Wd) : Prop where
  h : wd.cm = true
def XRep (wd : Wd) (K : PySem.W.Frag) (B : Addr → Prop) (H : Hp) (c : Nat) (x : D) (C : Value) (dx : Option Addr) : Prop :=
  C = (wd.xc c).1 ∧ match (wd.xc c).2 with
  | none => dx = none
  | some f => ∃ d v, dx = some d ∧ H d = some (.xd [(f, v)]) ∧ Rep K B H v x
/-! ### the readings as the code itself -/
section
variable (X : Cx)
def BE (e : Expr) : TE := fun σ H Q => ∀ (pins : List (Addr × Obj)) (s : Shared), Inv X pins σ H s → wpAny (model X.prog X.w) X.A (eval e X.env) (EP X pins σ Q) X.xe s
def BT (e : Expr) : TT := fun σ H Q => ∀ (pins : List (Addr × Obj)) (s : Shared), Inv X pins σ H s → wpAny (model X.prog X.w) X.A (isTrue e X.env (eval e X.env)) (TP X pins σ Q) X.xe s
def BW (e : Expr) : TT := fun σ H Q => ∀ (whole : Sem Value) (pins : List (Addr × Obj)) (s : Shared), Inv X pins σ H s → wpAny (model X.prog X.w) X.A (isTrue e X.env whole) (TP X pins σ Q) X.xe s
def BA (es : List Expr) : TA := fun σ H Q => ∀ (pos : Pos) (pins : List (Addr × Obj)) (s : Shared), Inv X pins σ H s → wpAny (model X.prog X.w) X.A (spliced (backTo pos (starEach es X.env))) (AP X pins σ Q) X.xe s
def BI (tg iter : Expr) : TI := fun σ H R => ∀ (pins : List (Addr × Obj)) (s : Shared), Inv X pins σ H s →
    wpAny (model X.prog X.w) X.A (eval iter X.env) (fun v s1 => wpAny (model X.prog X.w) X.A (pyIter v) (PIE X pins σ tg R) X.xe s1) X.xe s
def BS (st : Stmt) : TS := fun D σ H => ∀ (pins : List (Addr × Obj)) (s : Shared), Inv X pins σ H s → wpAny (model X.prog X.w) X.A (exec st X.env) (SP X pins D) X.xe s
def BSs (sts : List Stmt) : TS := fun D σ H => ∀ (pins : List (Addr × Obj)) (s : Shared), Inv X pins σ H s → wpAny (model X.prog X.w) X.A (execs sts X.env) (SP X pins D) X.xe s
end
section
variable {X : Cx} {e : Expr} {es : List Expr} {tg : Expr} {st : Stmt} {sts : List Stmt} {σ : L2.St} {H : Hp}
theorem pe_b : PE X e (BE X e) := ⟨fun pins s _ _ _ I h => h pins s I⟩
theorem pt_b : PT X e (BT X e) := ⟨fun pins s _ _ _ I h => h pins s I⟩
theorem pw_b : PW X e (BW X e) := ⟨fun wh pins s _ _ _ I h => h wh pins s I⟩
theorem pa_b : PA X es (BA X es) := ⟨fun pos pins s _ _ _ I h => h pos pins s I⟩
theorem pi_b : PI X tg e (BI X tg e) := ⟨fun pins s _ _ _ I h => h pins s I⟩
theorem ps_b : PS X st (BS X st) := ⟨fun pins s _ _ _ I h => h pins s I⟩
theorem pss_b : PSs X sts (BSs X sts) := ⟨fun pins s _ _ _ I h => h pins s I⟩
theorem be {t : TE} {Q : VK} (h : PE X e t) (q : t σ H Q) : BE X e σ H Q := fun pins s I => h.run pins s σ H Q I q
theorem bt {t : TT} {Q : Bool → Hp → Prop} (h : PT X e t) (q : t σ H Q) : BT X e σ H Q := fun pins s I => h.run pins s σ H Q I q
theorem bw {t : TT} {Q : Bool → Hp → Prop} (h : PW X e t) (q : t σ H Q) : BW X e σ H Q := fun wh pins s I => h.run wh pins s σ H Q I q
theorem ba {t : TA} {Q : List V → Hp → Prop} (h : PA X es t) (q : t σ H Q) : BA X es σ H Q := fun pos pins s I => h.run pos pins s σ H Q I q
theorem bi {t : TI} {R : It → Hp → Prop} (h : PI X tg e t) (q : t σ H R) : BI X tg e σ H R := fun pins s I => h.run pins s σ H R I q
theorem bs {t : TS} {Dn : Ends} (h : PS X st t) (q : t Dn σ H) : BS X st Dn σ H := fun pins s I => h.run pins s σ H Dn I q
theorem bss {t : TS} {Dn : Ends} (h : PSs X sts t) (q : t Dn σ H) : BSs X sts Dn σ H := fun pins s I => h.run pins s σ H Dn I q
end
/-! ### judgements -/
section
variable (X : Cx) (wd : Wd)
/-- what is wanted of an error -/
def XP (F : Addr → Prop) (ρ : List Sl) (ad : Nat → Addr) (H : Hp) (c : Nat) (x : D) : Prop := ∀ C dx H', Grow wd.dr H H' → XRep wd X.K (Ban F ρ ad) H' c x C dx → wd.W C dx H'
/-- e is d, nothing of it is owned -/
def Ev (ρ : List Sl) (e : Expr) (r : R D) : Prop := ∀ (F : Addr → Prop) (ad : Nat → Addr) (σ : L2.St) (H : Hp) (Q : VK), StOk X.K wd.dr F ρ σ H ad →
  r.wp (fun d => ∀ v H', Grow wd.dr H H' → Rep X.K (Ban F ρ ad) H' v d → Q v H') (XP X wd F ρ ad H) → BE X e σ H Q
/-- e is d, only to be looked at -/
def EvB (ρ : List Sl) (e : Expr) (r : R D) : Prop := ∀ (F : Addr → Prop) (ad : Nat → Addr) (σ : L2.St) (H : Hp) (Q : VK), StOk X.K wd.dr F ρ σ H ad →
  r.wp (fun d => ∀ v H', Grow wd.dr H H' → RepB X.K wd.dr (Ban F ρ ad) H' v d → Q v H') (XP X wd F ρ ad H) → BE X e σ H Q
/-- e is a new list, nobody else has it -/
def EvL (ρ : List Sl) (e : Expr) (r : R (List D)) : Prop := ∀ (F : Addr → Prop) (ad : Nat → Addr) (σ : L2.St) (H : Hp) (Q : VK), StOk X.K wd.dr F ρ σ H ad →
  r.wp (fun ds => ∀ a vs H', Grow wd.dr H H' → H a = none → H' a = some (.lst vs) → Reps X.K (fun b => Ban F ρ ad b ∨ b = a) H' vs ds → Q (.ref a) H') (XP X wd F ρ ad H) → BE X e σ H Q
/-- a test -/
def EvT (ρ : List Sl) (e : Expr) (r : R Bool) : Prop := ∀ (F : Addr → Prop) (ad : Nat → Addr) (σ : L2.St) (H : Hp) (Q : Bool → Hp → Prop), StOk X.K wd.dr F ρ σ H ad →
  r.wp (fun b => ∀ H', Grow wd.dr H H' → Q b H') (XP X wd F ρ ad H) → BT X e σ H Q
def EvW (ρ : List Sl) (e : Expr) (r : R Bool) : Prop := ∀ (F : Addr → Prop) (ad : Nat → Addr) (σ : L2.St) (H : Hp) (Q : Bool → Hp → Prop), StOk X.K wd.dr F ρ σ H ad →
  r.wp (fun b => ∀ H', Grow wd.dr H H' → Q b H') (XP X wd F ρ ad H) → BW X e σ H Q
/-- arguments, the last first in ds' end -/
def EvA (ρ : List Sl) (es : List Expr) (r : R (List D)) : Prop := ∀ (F : Addr → Prop) (ad : Nat → Addr) (σ : L2.St) (H : Hp) (Q : List V → Hp → Prop), StOk X.K wd.dr F ρ σ H ad →
  r.wp (fun ds => ∀ vs H', Grow wd.dr H H' → Reps X.K (Ban F ρ ad) H' vs ds → Q vs H') (XP X wd F ρ ad H) → BA X es σ H Q
/-- a part of a slice -/
def EvO (ρ : List Sl) (e : Option Expr) (r : R (Option Int)) : Prop := ∀ (F : Addr → Prop) (ad : Nat → Addr) (σ : L2.St) (H : Hp), StOk X.K wd.dr F ρ σ H ad →
  ∃ t, PO X e t ∧ ∀ (Q : Option Int → Hp → Prop), r.wp (fun i => ∀ H', Grow wd.dr H H' → Q i H') (XP X wd F ρ ad H) → t σ H Q
end
/-! ### the context -/
def visB (sc : Scope) (x : Str) : Bool := (match sc.names.lookup x with | some .local => true | some .cell => true | some .free => true | _ => false) && !(x == ("__debug__" : Str)) && !(x == ("__classdict__" : Str))
def glB (sc : Scope) (x : Str) : Bool := decide (sc.names.lookup x = some .globalImplicit) && !(x == ("__debug__" : Str)) && !(x == ("__name__" : Str))
structure Cw (CX : CXT) (k : Nat) (wd : Wd) (N : List Str) (sc : Scope) (X : Cx) : Prop where
  hN : X.N = N
  hs : X.env.scope = sc
  nd : N.Nodup
  calm' : wd.cm = true → X.calm = true
  un : X.A.units + 190 < cLine
  room' : wd.cm = true → Room k X.A
  po : PassesOwn (model X.prog X.w) X.A X.env X.xe
  ps : Passes CX X wd.W
section
variable {CX : CXT} {k : Nat} {wd : Wd} {N : List Str} {sc : Scope} {X : Cx} {ρ : List Sl} {e a b : Expr} {pos : Pos}
theorem Cw.vis (c : Cw CX k wd N sc X) {x : Str} (h : visB sc x = true) : Vis X.env.scope x ∧ (x == ("__debug__" : Str)) = false ∧ (x == ("__classdict__" : Str)) = false := by
  unfold visB at h
  rw [Bool.and_eq_true, Bool.and_eq_true] at h
  obtain ⟨⟨h1, h2⟩, h3⟩ := h
  refine ⟨?_, by simpa using h2, by simpa using h3⟩
  rw [c.hs]
  unfold Vis
  split at h1 <;> first | exact .inl (by assumption) | exact .inr (.inl (by assumption)) | exact .inr (.inr (by assumption)) | cases h1
theorem Cw.gl (c : Cw CX k wd N sc X) {x : Str} (h : glB sc x = true) : Gl X x ∧ (x == ("__debug__" : Str)) = false ∧ x ≠ "__name__" := by
  unfold glB at h
  rw [Bool.and_eq_true, Bool.and_eq_true] at h
  obtain ⟨⟨h1, h2⟩, h3⟩ := h
  refine ⟨?_, by simpa using h2, by simpa using h3⟩
  unfold Gl
  show X.env.scope.names.lookup x = _
  rw [c.hs]
  exact of_decide_eq_true h1
theorem Cw.calm [q : Calm wd] (c : Cw CX k wd N sc X) : X.calm = true := c.calm' q.h
theorem Cw.room [q : Calm wd] (c : Cw CX k wd N sc X) : Room k X.A := c.room' q.h
theorem un_of {k : Nat} {A : Around} (r : Room k A) : A.units + 190 < cLine := by have := r.un; omega
theorem Cw.u1 (c : Cw CX k wd N sc X) : X.A.units + 1 < cLine := by have := c.un; omega
theorem Cw.u64 (c : Cw CX k wd N sc X) : X.A.units + 64 < cLine := by have := c.un; omega
/-! ### weakenings -/
theorem Ev.look {r : R D} (h : Ev X wd ρ e r) : EvB X wd ρ e r := fun F ad σ H Q s q => h F ad σ H Q s (wp_mono (fun d z v H' g r => z v H' g (.inl r)) (fun _ _ z => z) q)
theorem EvL.ev {r : R (List D)} (h : EvL X wd ρ e r) : Ev X wd ρ e (r.bind fun ds => ret (.list ds)) := fun F ad σ H Q s q => by
  refine h F ad σ H Q s ?_
  rw [wp_bind] at q
  refine wp_mono (fun ds z => ?_) (fun _ _ z => z) q
  intro a vs H' g n e r
  refine z _ _ g (.lst (.inl e) (fun bn => ?_) (r.weak fun b => .inl))
  obtain ⟨o, eo, _⟩ := s.banned bn
  rw [n] at eo; cases eo
theorem Ev.eq {r r' : R D} (h : Ev X wd ρ e r) (q : r = r') : Ev X wd ρ e r' := q ▸ h
theorem Ev.le {ρ' : List Sl} {r : R D} (h : Ev X wd ρ' e r) (l : Le ρ' ρ) (ho : ∀ i, Own ρ i → Own ρ' i) : Ev X wd ρ e r := fun F ad σ H Q s q => by
  have hb : ∀ b, Ban F ρ ad b → Ban F ρ' ad b := by
    rintro b (b | ⟨i, o, e⟩)
    · exact .inl b
    · exact .inr ⟨i, ho i o, e⟩
  refine h F ad σ H Q (s.le l) (wp_mono (fun d z v H' g r => z v H' g (r.weak hb)) (fun c x z C dx H' g r => z C dx H' g ?_) q)
  obtain ⟨r1, r2⟩ := r
  refine ⟨r1, ?_⟩
  cases e : (wd.xc c).2 with
  | none => rw [e] at r2; exact r2
  | some f =>
    rw [e] at r2
    obtain ⟨d, v, h1, h2, h3⟩ := r2
    exact ⟨d, v, h1, h2, h3.weak hb⟩
end
/-- two in a row: the wishes of the second behind the first -/
theorem XP.grow {X : Cx} {wd : Wd} {F : Addr → Prop} {ρ : List Sl} {ad : Nat → Addr} {H H' : Hp} {c : Nat} {x : D} (h : XP X wd F ρ ad H c x) (g : Grow wd.dr H H') : XP X wd F ρ ad H' c x :=
  fun C dx H2 g2 r => h C dx H2 (g.trans g2) r
theorem RepB.stay {K : PySem.W.Frag} {dr : Drs} {F : Addr → Prop} {ρ : List Sl} {σ : L2.St} {H H' : Hp} {ad : Nat → Addr} (s : StOk K dr F ρ σ H ad) (g : Grow dr H H') {v : V} {d : D} (h : RepB K dr (Ban F ρ ad) H v d) : RepB K dr (Ban F ρ ad) H' v d := by
  have st := s.stays g
  rcases h with h | ⟨a, vs, ds, rfl, rfl, e, r⟩
  · exact .inl (h.stay st)
  · exact .inr ⟨a, vs, ds, rfl, rfl, ⟨g.keep _ _ e.1 e.2, e.2⟩, r.stay st⟩
theorem RepB.listN {K : PySem.W.Frag} {dr : Drs} {F : Addr → Prop} {ρ : List Sl} {σ : L2.St} {H : Hp} {ad : Nat → Addr} (s : StOk K dr F ρ σ H ad) {v : V} {ds : List D} (h : RepB K dr (Ban F ρ ad) H v (.list ds)) : ∃ a vs, v = .ref a ∧ Rd H a (.lst vs) ∧ Reps K (Ban F ρ ad) H vs ds ∧ ¬ Has dr a := by
  rcases h with h | ⟨a, vs, ds', rfl, e, h, r⟩
  · cases h with
    | lst a b c => exact ⟨_, _, rfl, a, c, fun z => b (s.drF z)⟩
  · cases e; exact ⟨a, vs, rfl, .inl h.1, r, h.2⟩
section
variable {CX : CXT} {k : Nat} {wd : Wd} {N : List Str} {sc : Scope} {X : Cx} {ρ : List Sl} {e a b : Expr} {pos : Pos}
/-! ### names, constants -/
theorem ev_var (c : Cw CX k wd N sc X) {i : Nat} {x : Str} {d : D} (hv : visB sc x = true) (hN : N[i]? = some x) (hρ : ρ[i]? = some (.d d)) : Ev X wd ρ (.Name x pos) (ret d) := fun F ad σ H Q s q => by
  obtain ⟨v1, v2, v3⟩ := c.vis hv
  obtain ⟨v, e, r⟩ := SlOk.at s hρ
  exact be (pe_var (i := i) (by rw [c.hN]; exact hN) v1 v2 v3) ⟨v, e, q v H (Grow.refl _ _) r⟩
theorem evb_own (c : Cw CX k wd N sc X) {i : Nat} {x : Str} {ds : List D} (hv : visB sc x = true) (hN : N[i]? = some x) (hρ : ρ[i]? = some (.l ds)) : EvB X wd ρ (.Name x pos) (ret (.list ds)) := fun F ad σ H Q s q => by
  obtain ⟨v1, v2, v3⟩ := c.vis hv
  obtain ⟨e, vs, e2, r⟩ := s.sl i _ hρ
  exact be (pe_var (i := i) (by rw [c.hN]; exact hN) v1 v2 v3) ⟨_, e, q _ H (Grow.refl _ _) (.inr ⟨_, vs, ds, rfl, rfl, ⟨e2, fun z => s.nf i ⟨_, hρ, rfl⟩ (s.dF z)⟩, r⟩)⟩
theorem scr_at (c : Cw CX k wd N sc X) {i : Nat} {ds : List D} {F : Addr → Prop} {ad : Nat → Addr} {σ : L2.St} {H : Hp} (s : StOk X.K wd.dr F ρ σ H ad) (hρ : ρ[i]? = some (.s ds)) : ∃ a vs, σ[i]? = some (some (.ref a)) ∧ SqL X.K H a vs ∧ Reps X.K (Ban F ρ ad) H vs ds := by
  obtain ⟨a, vs, e, r, rr⟩ := s.sl i _ hρ
  exact ⟨a, vs, e, r.imp (·.1) id, rr⟩
theorem ev_int {i : Int} {j : Nat} : Ev X wd ρ (.Constant (.int i) j pos) (ret (.int i)) := fun F ad σ H Q s q => be pe_int (q _ H (Grow.refl _ _) (.int i))
theorem ev_bl {i : Bool} {j : Nat} : Ev X wd ρ (.Constant (.bool i) j pos) (ret (.bool i)) := fun F ad σ H Q s q => be pe_bl (q _ H (Grow.refl _ _) (.bl i))
theorem ev_non {j : Nat} : Ev X wd ρ (.Constant .none j pos) (ret .none) := fun F ad σ H Q s q => be pe_non (q _ H (Grow.refl _ _) .non)
theorem ev_str {i : Str} {j : Nat} : Ev X wd ρ (.Constant (.str i) j pos) (ret (.str i)) := fun F ad σ H Q s q => be pe_str (q _ H (Grow.refl _ _) (.str i))
/-- a constant of the module -/
def GCon (K : PySem.W.Frag) (mg : Str → Option Value) (x : Str) (d : D) : Prop := ∃ v u, mg x = some u ∧ RelV v u ∧ ∀ (B : Addr → Prop) (H : Hp), Rep K B H v d
theorem ev_con (c : Cw CX k wd N sc X) {x : Str} {d : D} (hg : glB sc x = true) (hm : GCon X.K X.mg x d) : Ev X wd ρ (.Name x pos) (ret d) := fun F ad σ H Q s q => by
  obtain ⟨v1, v2, _⟩ := c.gl hg
  obtain ⟨v, u, h1, h2, h3⟩ := hm
  exact be (pe_glob v1 h1 h2 v2) (q _ H (Grow.refl _ _) (h3 _ H))
/-! ### operators -/
/-- how an operator by values computes -/
def OpS (K : PySem.W.Frag) (r : R2) (g : D → D → R D) : Prop := ∀ (B : Addr → Prop) (H : Hp) (x y : V) (d e : D) (Q : VK) (E : Nat → D → Prop), (∀ b, B b → Bd H b) → RepB K none B H x d → RepB K none B H y e →
  (g d e).wp (fun z => ∀ v H', Same H H' → Rep K B H' v z → Q v H') E → r x y H Q
theorem op_core {t : TE → TE → TE} {r : R2} {g : D → D → R D} {ra rb : R D} (ht : ∀ ta tb σ H Q, t ta tb σ H Q = (ta σ H fun x H1 => tb σ H1 fun y H2 => r x y H2 Q)) (hp : PE X e (t (BE X a) (BE X b))) (hs : OpS X.K r g)
    (ha : EvB X wd ρ a ra) (hb : EvB X wd ρ b rb) : Ev X wd ρ e (ra.bind fun x => rb.bind fun y => g x y) := fun F ad σ H Q s q => by
  refine be hp ?_
  rw [ht]
  rw [wp_bind] at q
  refine ha F ad σ H _ s (wp_mono (fun d q v H1 g1 r1 => ?_) (fun _ _ z => z) q)
  rw [wp_bind] at q
  have s1 := s.grow g1
  refine hb F ad σ H1 _ s1 (wp_mono (fun d2 q v2 H2 g2 r2 => ?_) (fun _ _ z => z.grow g1) q)
  have s2 := s1.grow g2
  exact hs (Ban F ρ ad) H2 v v2 d d2 Q _ (fun b z => s2.banned z) (r1.stay s1 g2).b r2.b (wp_mono (fun z q v H' sm r => q v H' (g1.trans (g2.trans (Grow.same sm))) r) (fun _ _ z => z) q)
theorem ev_op {op : Operator} {r : R2} {g : D → D → R D} {ra rb : R D} (ho : OpR X (binaryOp op) r) (hs : OpS X.K r g) (ha : EvB X wd ρ a ra) (hb : EvB X wd ρ b rb) : Ev X wd ρ (.BinOp a op b pos) (ra.bind fun x => rb.bind fun y => g x y) :=
  op_core (t := tOp r) (fun _ _ _ _ _ => rfl) (pe_op ho pe_b pe_b) hs ha hb
theorem ev_cmp {op : CmpOp} {r : R2} {g : D → D → R D} {ra rb : R D} (ho : OpR X (compareOp op) r) (hs : OpS X.K r g) (hm : behindInMarks op b = false) (ha : EvB X wd ρ a ra) (hb : EvB X wd ρ b rb) : Ev X wd ρ (.Compare a [op] [b] pos) (ra.bind fun x => rb.bind fun y => g x y) :=
  op_core (t := tOp r) (fun _ _ _ _ _ => rfl) (pe_cmpR ho pe_b pe_b hm) hs ha hb
theorem ev_ixr {ra rb : R D} {r : R2} {g : D → D → R D} (hr : IxR X r) (hs : OpS X.K r g) (hp : PlainIx b) (ha : EvB X wd ρ a ra) (hb : EvB X wd ρ b rb) : Ev X wd ρ (.Subscript a b pos) (ra.bind fun x => rb.bind fun y => g x y) :=
  op_core (t := tOp r) (fun _ _ _ _ _ => rfl) (pe_ix hr pe_b pe_b hp) hs ha hb
end
/-! ### the operators' rules -/
theorem same_stay {B : Addr → Prop} {H H' : Hp} (s : Same H H') : Stay B H H' := fun b o e _ => s b o e
theorem newtup {K : PySem.W.Frag} {B : Addr → Prop} {H : Hp} {p : Addr} {vs : List V} {ds : List D} (hb : ∀ b, B b → Bd H b) (hp : H p = none) (r : Reps K B H vs ds) : Rep K B (upd H p (.tup vs)) (.ref p) (.tuple ds) :=
  (.tup ⟨upd_same, fun z => by obtain ⟨o, e, _⟩ := hb p z; rw [hp] at e; cases e⟩ (r.stay (same_stay (same_upd hp))))
theorem newlst {K : PySem.W.Frag} {B : Addr → Prop} {H : Hp} {p : Addr} {vs : List V} {ds : List D} (hb : ∀ b, B b → Bd H b) (hp : H p = none) (r : Reps K B H vs ds) : Rep K B (upd H p (.lst vs)) (.ref p) (.list ds) :=
  .lst (.inl upd_same) (fun z => by obtain ⟨o, e, _⟩ := hb p z; rw [hp] at e; cases e) (r.stay (same_stay (same_upd hp)))
theorem Inv.lstR {X : Cx} {pins : List (Addr × Obj)} {σ : L2.St} {H : Hp} {s : Shared} {p : Addr} {xs : List V} (I : Inv X pins σ H s) (h : Rd H p (.lst xs)) :
    ∃ (its : List Value) (n : Nat), Vals xs its ∧ xs.length = its.length ∧ s.heap.get? p = some { cls := .type "list", data := .seq its.toArray n } ∧ xs.length ≤ sizeLine := by
  obtain ⟨z, its, n, r, e⟩ := h.ok I.hok
  exact ⟨its, n, r, r.length, e, z⟩
/-- list + list, also of lists that stand still -/
def rCatR : R2 := fun x y H Q => ∃ l b xs zs, x = .ref l ∧ y = .ref b ∧ Rd H l (.lst xs) ∧ Rd H b (.lst zs) ∧ xs.length + zs.length ≤ sizeLine ∧ ∀ p, H p = none → Q (.ref p) (upd H p (.lst (xs ++ zs)))
theorem op_catR {X : Cx} : OpR X (binaryOp .Add) rCatR := by
  intro pins s σ H x y v u Q I rx ry h
  obtain ⟨l, b, xs, zs, rfl, rfl, hH, hB, hz, q⟩ := h
  cases rx
  cases ry
  obtain ⟨its, n, r, hl, e, _⟩ := Inv.lstR I hH
  obtain ⟨its2, n2, r2, hl2, e2, _⟩ := Inv.lstR I hB
  refine PySem.P.add_list e e2 ?_ (by rw [List.size_toArray, List.size_toArray]; omega)
  have ea : its.toArray ++ its2.toArray = (its ++ its2).toArray := by simp
  rw [ea]
  refine ⟨.ref s.heap.objs.size, _, I.laid (t' := s.toks) (o := .lst (xs ++ zs)) (fun b ob q => Heap.get?_push_of_some _ q) (Nat.le_refl _) ?_, rfl, q _ (I.hok.fresh (Nat.le_refl _))⟩
  exact ⟨by rw [List.length_append]; omega, its ++ its2, 0, r.append r2, Heap.get?_push_size _ rfl⟩
def rAdd4 (K : PySem.W.Frag) : R2 := fun x y H Q => (∃ i j, x = .int i ∧ y = .int j ∧ Q (.int (i + j)) H) ∨ (∃ i j, x = .str i ∧ y = .str j ∧ i.length + j.length ≤ sizeLine ∧ Q (.str (i ++ j)) H) ∨ rCatA K x y H Q ∨ rCatR x y H Q
section
variable {X : Cx} {K : PySem.W.Frag}
theorem op_add4 : OpR X (binaryOp .Add) (rAdd4 X.K) := OpR.or op_add (OpR.or op_add_str (OpR.or op_catA op_catR))
theorem opS_add : OpS K (rAdd4 K) addR := by
  intro B H x y d e Q E hb hx hy q
  cases d with
  | int i =>
    cases e with
    | int j => exact .inl ⟨i, j, hx.int, hy.int, q _ _ (Same.refl _) (.int _)⟩
    | _ => exact q.elim
  | str i =>
    cases e with
    | str j =>
      obtain ⟨h, q⟩ := wp_ite q
      exact .inr (.inl ⟨i, j, hx.str, hy.str, h, q _ _ (Same.refl _) (.str _)⟩)
    | _ => exact q.elim
  | tuple xs =>
    cases e with
    | tuple ys =>
      obtain ⟨h, q⟩ := wp_ite q
      obtain ⟨a1, v1, rfl, h1, r1⟩ := hx.tuple
      obtain ⟨a2, v2, rfl, h2, r2⟩ := hy.tuple
      refine .inr (.inr (.inl ⟨a1, a2, v1, v2, rfl, rfl, h1.sq, h2.sq, by rw [r1.length, r2.length]; exact h, fun z => ?_, fun z z2 => ?_, fun z z2 p hp => ?_⟩))
      · subst z
        have z : xs = [] := List.eq_nil_of_length_eq_zero r1.length.symm
        subst z
        exact q _ _ (Same.refl _) (.tup h2 r2)
      · subst z2
        have z : ys = [] := List.eq_nil_of_length_eq_zero r2.length.symm
        subst z
        rw [List.append_nil] at q
        exact q _ _ (Same.refl _) (.tup h1 r1)
      · exact q _ _ (same_upd hp) (newtup hb hp (r1.append r2))
    | _ => exact q.elim
  | list xs =>
    cases e with
    | list ys =>
      obtain ⟨h, q⟩ := wp_ite q
      obtain ⟨a1, v1, rfl, h1, r1⟩ := hx.list
      obtain ⟨a2, v2, rfl, h2, r2⟩ := hy.list
      exact .inr (.inr (.inr ⟨a1, a2, v1, v2, rfl, rfl, h1, h2, by rw [r1.length, r2.length]; exact h, fun p hp => q _ _ (same_upd hp) (newlst hb hp (r1.append r2))⟩))
    | _ => exact q.elim
  | _ => exact q.elim
theorem opS_i0 {g : Int → Int → Int} {f : D → D → R D} (hf : ∀ i j, f (.int i) (.int j) = R.ret (.int (g i j))) (hn : ∀ d e, (∃ i j, d = .int i ∧ e = .int j) ∨ f d e = bad) : OpS K (rI0 fun i j => .int (g i j)) f := by
  intro B H x y d e Q E hb hx hy q
  rcases hn d e with ⟨i, j, rfl, rfl⟩ | z
  · rw [hf] at q
    exact ⟨i, j, hx.int, hy.int, q _ _ (Same.refl _) (.int _)⟩
  · rw [z] at q; exact q.elim
theorem opS_b0 {g : Int → Int → Bool} {f : D → D → R D} (hf : ∀ i j, f (.int i) (.int j) = R.ret (.bool (g i j))) (hn : ∀ d e, (∃ i j, d = .int i ∧ e = .int j) ∨ f d e = bad) : OpS K (rI0 fun i j => .bl (g i j)) f := by
  intro B H x y d e Q E hb hx hy q
  rcases hn d e with ⟨i, j, rfl, rfl⟩ | z
  · rw [hf] at q
    exact ⟨i, j, hx.int, hy.int, q _ _ (Same.refl _) (.bl _)⟩
  · rw [z] at q; exact q.elim
theorem opS_ic {C : Int → Int → Prop} [∀ i j, Decidable (C i j)] {g : Int → Int → Int} {f : D → D → R D} (hf : ∀ i j, f (.int i) (.int j) = if C i j then R.ret (.int (g i j)) else bad) (hn : ∀ d e, (∃ i j, d = .int i ∧ e = .int j) ∨ f d e = bad) :
    OpS K (rI C fun i j => .int (g i j)) f := by
  intro B H x y d e Q E hb hx hy q
  rcases hn d e with ⟨i, j, rfl, rfl⟩ | z
  · rw [hf] at q
    by_cases h : C i j
    · rw [if_pos h] at q
      exact ⟨i, j, hx.int, hy.int, h, q _ _ (Same.refl _) (.int _)⟩
    · rw [if_neg h] at q; exact q.elim
  · rw [z] at q; exact q.elim
theorem opS_sub : OpS K (rI0 fun i j => .int (i - j)) subR := opS_i0 (fun _ _ => rfl) fun d e => by cases d <;> cases e <;> first | exact .inl ⟨_, _, rfl, rfl⟩ | exact .inr rfl
theorem op_fdivL {X : Cx} : OpR X (binaryOp .FloorDiv) (rI CDivL fun i j => .int (i.fdiv j)) := opI fun _ _ _ _ _ _ _ hc q => floordiv_int hc.1 q (.inl (PyProof.noPylong_of_log2 (by
  have h1 := hc.1
  have h2 := hc.2
  exact Nat.lt_of_lt_of_le ((Nat.log2_lt (by omega)).mpr h2) (by decide))))
theorem opS_fdiv : OpS K (rI CDivL fun i j => .int (i.fdiv j)) fdivR :=
  @opS_ic K CDivL (fun i j => inferInstance) _ _ (fun _ _ => by unfold fdivR; rfl) fun d e => by cases d <;> cases e <;> first | exact .inl ⟨_, _, rfl, rfl⟩ | exact .inr rfl
theorem opS_mod : OpS K (rI (fun _ j => j ≠ 0) fun i j => .int (i.fmod j)) modR :=
  @opS_ic K (fun _ j => j ≠ 0) (fun i j => inferInstance) _ _ (fun _ _ => rfl) fun d e => by cases d <;> cases e <;> first | exact .inl ⟨_, _, rfl, rfl⟩ | exact .inr rfl
theorem opS_pow : OpS K (rI CPow fun i j => .int (i ^ j.toNat)) powR :=
  @opS_ic K CPow (fun i j => by unfold CPow; exact inferInstance) _ _ (fun _ _ => by unfold powR CPow; rfl) fun d e => by cases d <;> cases e <;> first | exact .inl ⟨_, _, rfl, rfl⟩ | exact .inr rfl
theorem opS_lt : OpS K (rI0 fun i j => .bl (decide (i < j))) ltR := opS_b0 (fun _ _ => rfl) fun d e => by cases d <;> cases e <;> first | exact .inl ⟨_, _, rfl, rfl⟩ | exact .inr rfl
theorem opS_le : OpS K (rI0 fun i j => .bl (decide (i ≤ j))) leR := opS_b0 (fun _ _ => rfl) fun d e => by cases d <;> cases e <;> first | exact .inl ⟨_, _, rfl, rfl⟩ | exact .inr rfl
theorem opS_gt : OpS K (rI0 fun i j => .bl (decide (j < i))) gtR := opS_b0 (fun _ _ => rfl) fun d e => by cases d <;> cases e <;> first | exact .inl ⟨_, _, rfl, rfl⟩ | exact .inr rfl
theorem opS_ge : OpS K (rI0 fun i j => .bl (decide (j ≤ i))) geR := opS_b0 (fun _ _ => rfl) fun d e => by cases d <;> cases e <;> first | exact .inl ⟨_, _, rfl, rfl⟩ | exact .inr rfl
theorem opS_eq : OpS K (rEqD K) eqR := by
  intro B H x y d e Q E hb hx hy q
  unfold eqR at q
  by_cases h : SeqAt.shaped d = true ∧ SeqAt.shaped e = true
  · rw [if_pos h] at q
    exact ⟨d, e, hx.dp, hy.dp, h.1, h.2, q _ _ (Same.refl _) (.bl _)⟩
  · rw [if_neg h] at q; exact q.elim
theorem opS_ne : OpS K (rNeD K) neR := by
  intro B H x y d e Q E hb hx hy q
  unfold neR at q
  by_cases h : SeqAt.shaped d = true ∧ SeqAt.shaped e = true
  · rw [if_pos h] at q
    exact ⟨d, e, hx.dp, hy.dp, h.1, h.2, q _ _ (Same.refl _) (.bl _)⟩
  · rw [if_neg h] at q; exact q.elim
def rIs2 : R2 := fun x y H Q => (y = .non ∧ Q (.bl (decide (x = .non))) H) ∨ (∃ a b, x = .bl a ∧ y = .bl b ∧ Q (.bl (decide (a = b))) H)
def rIsNot2 : R2 := fun x y H Q => (y = .non ∧ Q (.bl (!decide (x = .non))) H) ∨ (∃ a b, x = .bl a ∧ y = .bl b ∧ Q (.bl (!decide (a = b))) H)
theorem op_is2 : OpR X (compareOp .Is) rIs2 := OpR.or op_isN op_is_bl
theorem op_isNot2 : OpR X (compareOp .IsNot) rIsNot2 := OpR.or op_notN op_isnot_bl
theorem isNone_dec {B : Addr → Prop} {H : Hp} {x : V} {d : D} (h : RepB K dr B H x d) : isNone d = decide (x = .non) := by
  cases d with
  | none => rw [h.non]; rfl
  | bool b => rw [h.bool]; rfl
  | int b => rw [h.int]; rfl
  | str b => rw [h.str]; rfl
  | list ds => obtain ⟨a, vs, rfl, _⟩ := h.list; rfl
  | tuple ds => obtain ⟨a, vs, rfl, _⟩ := h.tuple; rfl
  | dict _ => exact h.nodict.elim
theorem opS_is : OpS K rIs2 isR := by
  intro B H x y d e Q E hb hx hy q
  cases e with
  | none =>
    refine .inl ⟨hy.non, ?_⟩
    rw [← isNone_dec hx]
    exact q _ _ (Same.refl _) (.bl _)
  | bool b =>
    cases d with
    | bool a => exact .inr ⟨a, b, hx.bool, hy.bool, q _ _ (Same.refl _) (.bl _)⟩
    | _ => exact q.elim
  | _ => exact q.elim
theorem opS_isNot : OpS K rIsNot2 isNotR := by
  intro B H x y d e Q E hb hx hy q
  cases e with
  | none =>
    refine .inl ⟨hy.non, ?_⟩
    rw [← isNone_dec hx]
    exact q _ _ (Same.refl _) (.bl _)
  | bool b =>
    cases d with
    | bool a => exact .inr ⟨a, b, hx.bool, hy.bool, q _ _ (Same.refl _) (.bl _)⟩
    | _ => exact q.elim
  | _ => exact q.elim
theorem at_rep {B : Addr → Prop} {H : Hp} {vs : List V} {ds : List D} {i : Int} {d : D} (r : Reps K B H vs ds) (h : atI ds i = some d) : ∃ v, atI vs i = some v ∧ Rep K B H v d := by
  unfold atI at h ⊢
  rw [r.length]
  cases e : ixN ds.length i with
  | none => rw [e] at h; cases h
  | some j => rw [e] at h; exact r.get h
theorem opS_ix : OpS K (rIx K) ixR := by
  intro B H x y d e Q E hb hx hy q
  cases e with
  | int i =>
    cases d with
    | list ds =>
      obtain ⟨a, vs, rfl, h1, r1⟩ := hx.list
      have q : (optR (atI ds i)).wp (fun z => ∀ v H', Same H H' → Rep K B H' v z → Q v H') E := q
      cases h : atI ds i with
      | none => rw [h] at q; exact q.elim
      | some d =>
        rw [h] at q
        obtain ⟨v, hv, rv⟩ := at_rep r1 h
        exact .inl ⟨a, vs, i, v, rfl, hy.int, .inl h1, hv, q _ _ (Same.refl _) rv⟩
    | tuple ds =>
      obtain ⟨a, vs, rfl, h1, r1⟩ := hx.tuple
      have q : (optR (atI ds i)).wp (fun z => ∀ v H', Same H H' → Rep K B H' v z → Q v H') E := q
      cases h : atI ds i with
      | none => rw [h] at q; exact q.elim
      | some d =>
        rw [h] at q
        obtain ⟨v, hv, rv⟩ := at_rep r1 h
        exact .inr (.inl ⟨a, vs, i, v, rfl, hy.int, h1.sq, hv, q _ _ (Same.refl _) rv⟩)
    | str z =>
      obtain ⟨h, q⟩ := wp_ite q
      cases h2 : atI z.cps.toList i with
      | none => rw [h2] at q; exact q.elim
      | some c => rw [h2] at q; exact .inr (.inr ⟨z, i, c, hx.str, hy.int, h, h2, q _ _ (Same.refl _) (.str _)⟩)
    | _ => exact q.elim
  | _ => cases d <;> exact q.elim
end
section
variable {CX : CXT} {k : Nat} {wd : Wd} {N : List Str} {sc : Scope} {X : Cx} {ρ : List Sl} {e a b : Expr} {pos : Pos} {ra rb : R D}
theorem ev_add (ha : EvB X wd ρ a ra) (hb : EvB X wd ρ b rb) : Ev X wd ρ (.BinOp a .Add b pos) (ra.bind fun x => rb.bind fun y => addR x y) := ev_op op_add4 opS_add ha hb
theorem ev_sub (ha : EvB X wd ρ a ra) (hb : EvB X wd ρ b rb) : Ev X wd ρ (.BinOp a .Sub b pos) (ra.bind fun x => rb.bind fun y => subR x y) := ev_op op_sub opS_sub ha hb
theorem ev_fdiv (ha : EvB X wd ρ a ra) (hb : EvB X wd ρ b rb) : Ev X wd ρ (.BinOp a .FloorDiv b pos) (ra.bind fun x => rb.bind fun y => fdivR x y) := ev_op op_fdivL opS_fdiv ha hb
theorem ev_mod (ha : EvB X wd ρ a ra) (hb : EvB X wd ρ b rb) : Ev X wd ρ (.BinOp a .Mod b pos) (ra.bind fun x => rb.bind fun y => modR x y) := ev_op op_modN opS_mod ha hb
theorem ev_pow (ha : EvB X wd ρ a ra) (hb : EvB X wd ρ b rb) : Ev X wd ρ (.BinOp a .Pow b pos) (ra.bind fun x => rb.bind fun y => powR x y) := ev_op op_pow opS_pow ha hb
theorem ev_lt (ha : EvB X wd ρ a ra) (hb : EvB X wd ρ b rb) : Ev X wd ρ (.Compare a [.Lt] [b] pos) (ra.bind fun x => rb.bind fun y => ltR x y) := ev_cmp op_lt opS_lt (nobehind _ (by decide) (by decide)) ha hb
theorem ev_le (ha : EvB X wd ρ a ra) (hb : EvB X wd ρ b rb) : Ev X wd ρ (.Compare a [.LtE] [b] pos) (ra.bind fun x => rb.bind fun y => leR x y) := ev_cmp op_le opS_le (nobehind _ (by decide) (by decide)) ha hb
theorem ev_gt (ha : EvB X wd ρ a ra) (hb : EvB X wd ρ b rb) : Ev X wd ρ (.Compare a [.Gt] [b] pos) (ra.bind fun x => rb.bind fun y => gtR x y) := ev_cmp op_gt opS_gt (nobehind _ (by decide) (by decide)) ha hb
theorem ev_ge (ha : EvB X wd ρ a ra) (hb : EvB X wd ρ b rb) : Ev X wd ρ (.Compare a [.GtE] [b] pos) (ra.bind fun x => rb.bind fun y => geR x y) := ev_cmp op_ge opS_ge (nobehind _ (by decide) (by decide)) ha hb
theorem ev_eq (c : Cw CX k wd N sc X) (ha : EvB X wd ρ a ra) (hb : EvB X wd ρ b rb) : Ev X wd ρ (.Compare a [.Eq] [b] pos) (ra.bind fun x => rb.bind fun y => eqR x y) := ev_cmp (op_eqD c.u64) opS_eq (nobehind _ (by decide) (by decide)) ha hb
theorem ev_ne (c : Cw CX k wd N sc X) (ha : EvB X wd ρ a ra) (hb : EvB X wd ρ b rb) : Ev X wd ρ (.Compare a [.NotEq] [b] pos) (ra.bind fun x => rb.bind fun y => neR x y) := ev_cmp (op_neD c.u64) opS_ne (nobehind _ (by decide) (by decide)) ha hb
theorem ev_is (ha : EvB X wd ρ a ra) (hb : EvB X wd ρ b rb) : Ev X wd ρ (.Compare a [.Is] [b] pos) (ra.bind fun x => rb.bind fun y => isR x y) := ev_cmp op_is2 opS_is (nobehind _ (by decide) (by decide)) ha hb
theorem ev_isNot (ha : EvB X wd ρ a ra) (hb : EvB X wd ρ b rb) : Ev X wd ρ (.Compare a [.IsNot] [b] pos) (ra.bind fun x => rb.bind fun y => isNotR x y) := ev_cmp op_isNot2 opS_isNot (nobehind _ (by decide) (by decide)) ha hb
theorem ev_ix (ha : EvB X wd ρ a ra) (hb : EvB X wd ρ b rb) (hp : PlainIx b := by exact fun _ _ => rfl) : Ev X wd ρ (.Subscript a b pos) (ra.bind fun x => rb.bind fun y => ixR x y) := ev_ixr ix_seq opS_ix hp ha hb
end
end Pu
/-! Pf: more expressions: products, tests, slices, displays, calls, comprehensions. -/
namespace Pu
open PySem PySem.Spec PyProof.Rows L2 R
/-! ### products -/
theorem tuple_mul1 (l : Addr) (items : Array Value) (n : Nat) (dd : Option Addr) (sl : Array (Option Value)) (u : Tok) :
    Meets (Builtin.«tuple.__mul__» ⟨[.ref l, .int 1 u], []⟩) (fun _ R s => s.heap.get? l = some { cls := .type "tuple", dict := dd, data := .seq items n, slots := sl } ∧
      R (.ok (.ret (Value.ref l))) s) :=
  .of_wp fun prog w A R s h => by
    obtain ⟨hp, g, d, tk, os⟩ := s
    obtain ⟨hl, h⟩ := h
    have f1 := AutoSeq1.idx_int
    have c0 : (decide ((1 : Int) < -(2 ^ 63)) || decide ((1 : Int) ≥ 2 ^ 63)) = false := by decide
    have c1 : (items.isEmpty || (1 : Int) == 1) = true := by simp
    wp_walk using wpAny_loadPart' hl
    repeat (first
      | (refine wpAny_ite_false (decide_eq_false (by rw [c0]; exact Bool.false_ne_true)) ?_; wp_walk using wpAny_loadPart' hl)
      | (refine wpAny_ite_true (decide_eq_true c1) ?_; wp_walk using wpAny_loadPart' hl)
      | (refine wpAny_ite_true rfl ?_; wp_walk using wpAny_loadPart' hl))
    exact ⟨_, rfl, h⟩
def rRepT1 (K : PySem.W.Frag) : R2 := fun x y H Q => ∃ l xs, x = .ref l ∧ y = .int 1 ∧ SqT K H l xs ∧ Q (.ref l) H
theorem op_repT1 {X : Cx} : OpR X (binaryOp .Mult) (rRepT1 X.K) := by
  intro pins s σ H x y v u Q I rx ry h
  obtain ⟨l, xs, rfl, rfl, hT, q⟩ := h
  cases rx
  obtain ⟨t, rfl⟩ := ry
  obtain ⟨its, r, ⟨⟨cls, dd, data, sl⟩, ho, hc, n, hd⟩, hs⟩ := I.tuple hT
  simp only at hc hd
  subst hc hd
  exact wpAny_binaryOp_repeat_ref (T := "tuple") (U := "int") (by decide) ⟨_, ho, rfl⟩ (fun s' => typeIs_int s' 1 t) noFill_tuple_mul F.fills_int_mul F.slot_int_rmul repeat_tuple F.slot_int_index.lookup
    (call_meets F.slot_int_rmul (typeIs_int s 1 t) F.entry_int_rmul (F.args_int_rmul_2 _ _) (int_rmul_tuple 1 t l its.toArray n dd sl)
      ⟨ho, rfl, ⟨_, ho, rfl⟩, call_meets F.slot_tuple_mul ⟨_, ho, rfl⟩ F.entry_tuple_mul (F.args_tuple_mul_2 _ _) (tuple_mul1 l its.toArray n dd sl t) ⟨ho, ⟨.ref l, _, I, rfl, q⟩⟩⟩)
def rRepR : R2 := fun x y H Q => ∃ l k xs, x = .ref l ∧ y = .int k ∧ Rd H l (.lst xs) ∧ -(2 ^ 63) ≤ k ∧ k < 2 ^ 63 ∧ xs.length * k.toNat ≤ sizeLine ∧
  ∀ p, H p = none → Q (.ref p) (upd H p (.lst (List.replicate k.toNat xs).flatten))
theorem rep_foldl (zs : List Value) (m : Nat) : (List.replicate m zs.toArray).foldl (· ++ ·) #[] = (List.replicate m zs).flatten.toArray := by
  simpa using foldl_rep zs m []
theorem op_repR {X : Cx} : OpR X (binaryOp .Mult) rRepR := by
  intro pins s σ H x y v u Q I rx ry ⟨l, k, xs, ex, ey, hH, h1, h2, hz, q⟩
  subst ex ey
  cases rx
  obtain ⟨t, rfl⟩ := ry
  obtain ⟨zs, n, r, hl, e, _⟩ := Inv.lstR I hH
  have hs : zs.toArray.size * k.toNat ≤ sizeLine := by simpa [hl] using hz
  have c1 : ¬ (!Builtin.List.listFitsIndex k) = true := by simp [fitsIndex_both h1 h2]
  have c2 : ¬ zs.toArray.size * k.toNat > (2 ^ 63 - 1) / 8 := by
    have := (by decide : (sizeLine : Nat) ≤ (2 ^ 63 - 1) / 8)
    omega
  have c3 : ¬ Builtin.List.listTooLong (zs.toArray.size * k.toNat) = true := by rw [notLongL hs]; simp
  have ez : (List.replicate (if zs.toArray.isEmpty = true then 0 else k.toNat) zs.toArray).foldl (· ++ ·) #[] = (List.replicate k.toNat zs).flatten.toArray := by
    rw [rep_foldl]
    cases zs <;> simp
  have hn : H s.heap.objs.size = none := I.hok.fresh (Nat.le_refl _)
  have tI := fun s' : Shared => typeIs_int s' k t
  have tL : s.TypeIs (.ref l) "list" := ⟨_, e, rfl⟩
  refine wpAny_binaryOp_repeat_ref (by decide) tL tI noFill_list_mul F.fills_int_mul F.slot_int_rmul repeat_list F.slot_int_index.lookup ?_
  refine call_meets F.slot_int_rmul (tI s) F.entry_int_rmul (F.args_int_rmul_2 _ _) (int___rmul___int_list k t l zs.toArray n) ⟨e, rfl, tL, ?_⟩
  refine call_meets F.slot_list_mul tL F.entry_list_mul (F.args_list_mul_2 _ _) (AutoListH.list___mul___list_int_3 l zs.toArray n k t c1 c2 c3) ⟨e, ?_⟩
  rw [ez]
  refine ⟨.ref s.heap.objs.size, _, I.lnew (t' := s.toks) (r.rep k.toNat) ?_, rfl, q _ hn⟩
  rw [PyProof.Rows.lm_len_rep_flat, Nat.mul_comm]
  omega
def rMul4 (K : PySem.W.Frag) : R2 := fun x y H Q => rI CMul (fun i j => .int (i * j)) x y H Q ∨ rRepT1 K x y H Q ∨ rRepT K x y H Q ∨ rRepR x y H Q
theorem op_mul4 {X : Cx} : OpR X (binaryOp .Mult) (rMul4 X.K) := OpR.or op_mul (OpR.or op_repT1 (OpR.or op_repT op_repR))
theorem opS_mul {K : PySem.W.Frag} : OpS K (rMul4 K) mulR := by
  intro B H x y d e Q E hb hx hy q
  cases e with
  | int k =>
    cases d with
    | int i =>
      obtain ⟨h, q⟩ := wp_ite q
      exact .inl ⟨i, k, hx.int, hy.int, h, q _ _ (Same.refl _) (.int _)⟩
    | tuple xs =>
      obtain ⟨⟨h1, h2, h3, h4⟩, q⟩ := wp_ite q
      obtain ⟨a1, v1, rfl, g1, r1⟩ := hx.tuple
      by_cases k1 : k = 1
      · subst k1
        have e1 : (List.replicate (1 : Int).toNat xs).flatten = xs := by show (List.replicate 1 xs).flatten = xs; simp
        rw [e1] at q
        exact .inr (.inl ⟨a1, v1, rfl, hy.int, g1.sq, q _ _ (Same.refl _) (.tup g1 r1)⟩)
      · refine .inr (.inr (.inl ⟨a1, k, v1, rfl, hy.int, g1.sq, fun z => h1 ?_, by omega, h3, by rw [r1.length]; exact h4, fun p hp => q _ _ (same_upd hp) (newtup hb hp (r1.rep _))⟩))
        subst z
        exact List.eq_nil_of_length_eq_zero r1.length.symm
    | list xs =>
      obtain ⟨⟨h1, h2, h3⟩, q⟩ := wp_ite q
      obtain ⟨a1, v1, rfl, g1, r1⟩ := hx.list
      exact .inr (.inr (.inr ⟨a1, k, v1, rfl, hy.int, g1, h1, h2, by rw [r1.length]; exact h3, fun p hp => q _ _ (same_upd hp) (newlst hb hp (r1.rep _))⟩))
    | _ => exact q.elim
  | _ => cases d <;> exact q.elim
section
variable {CX : CXT} {k : Nat} {wd : Wd} {N : List Str} {sc : Scope} {X : Cx} {ρ : List Sl} {e a b c : Expr} {rest : List Expr} {pos : Pos} {ra rb : R D}
theorem ev_mul (ha : EvB X wd ρ a ra) (hb : EvB X wd ρ b rb) : Ev X wd ρ (.BinOp a .Mult b pos) (ra.bind fun x => rb.bind fun y => mulR x y) := ev_op op_mul4 opS_mul ha hb
theorem ev_neg (ha : EvB X wd ρ a ra) : Ev X wd ρ (.UnaryOp .USub a pos) (ra.bind fun x => negR x) := fun F ad σ H Q s q => by
  refine be (pe_un un_neg pe_b) ?_
  rw [wp_bind] at q
  refine ha F ad σ H _ s (wp_mono (fun d q v H1 g1 r1 => ?_) (fun _ _ z => z) q)
  cases d with
  | int i => exact ⟨i, r1.int, q _ _ g1 (.int _)⟩
  | _ => exact q.elim
theorem post_grow {F : Addr → Prop} {ad : Nat → Addr} {H H1 : Hp} {Q : VK} {r : R D} (g : Grow wd.dr H H1) (q : r.wp (fun d => ∀ v H', Grow wd.dr H H' → Rep X.K (Ban F ρ ad) H' v d → Q v H') (XP X wd F ρ ad H)) :
    r.wp (fun d => ∀ v H', Grow wd.dr H1 H' → Rep X.K (Ban F ρ ad) H' v d → Q v H') (XP X wd F ρ ad H1) := wp_mono (fun _ z v H' g' r => z v H' (g.trans g') r) (fun _ _ z => z.grow g) q
theorem postT_grow {F : Addr → Prop} {ad : Nat → Addr} {H H1 : Hp} {Q : Bool → Hp → Prop} {r : R Bool} (g : Grow wd.dr H H1) (q : r.wp (fun d => ∀ H', Grow wd.dr H H' → Q d H') (XP X wd F ρ ad H)) :
    r.wp (fun d => ∀ H', Grow wd.dr H1 H' → Q d H') (XP X wd F ρ ad H1) := wp_mono (fun _ z H' g' => z H' (g.trans g')) (fun _ _ z => z.grow g) q
/-! ### truth -/
theorem tru_of {B : Addr → Prop} {K : PySem.W.Frag} {H : Hp} {v : V} {d : D} (r : RepB K dr B H v d) {Q : Bool → Prop} {E : Nat → D → Prop} (q : (truR d).wp Q E) : ∃ k, TruV K v H k ∧ Q k := by
  cases d with
  | none => rw [r.non]; exact ⟨false, rfl, q⟩
  | bool b => rw [r.bool]; exact ⟨b, rfl, q⟩
  | int b => rw [r.int]; exact ⟨_, rfl, q⟩
  | str x =>
    obtain ⟨h, q⟩ := wp_ite q
    rw [r.str]
    refine ⟨_, ⟨h, rfl⟩, ?_⟩
    have e : ((x.length : Int) != 0) = (x.length != 0) := by
      cases x.length with
      | zero => rfl
      | succ n => simp; omega
    rw [e]
    exact q
  | list xs =>
    obtain ⟨a, vs, rfl, e, rr⟩ := r.list
    refine ⟨_, .inl ⟨vs, .inl e, rfl⟩, ?_⟩
    have e : vs.isEmpty = xs.isEmpty := by
      have := rr.length
      cases vs <;> cases xs <;> simp_all
    rw [e]
    exact q
  | tuple xs =>
    obtain ⟨a, vs, rfl, e, rr⟩ := r.tuple
    refine ⟨_, .inr (.inl ⟨vs, e.sq, rfl⟩), ?_⟩
    have e : vs.isEmpty = xs.isEmpty := by
      have := rr.length
      cases vs <;> cases xs <;> simp_all
    rw [e]
    exact q
  | dict _ => exact r.nodict.elim
/-- an expression's truth as a test -/
theorem evt_tru (ha : EvB X wd ρ a ra) (he : ∀ whole, isTrue a X.env whole = (do let v ← whole; standAt a.pos; holding [v] (truthy v)) := by exact fun _ => rfl) : EvT X wd ρ a (ra.bind fun x => truR x) := fun F ad σ H Q s q => by
  refine bt (pt_truth pe_b he) ?_
  rw [wp_bind] at q
  refine ha F ad σ H _ s (wp_mono (fun d q v H1 g1 r1 => ?_) (fun _ _ z => z) q)
  exact tru_of r1 (wp_mono (fun b z => z _ g1) (fun _ _ z => z) q)
/-- an expression that is a bool, as a test -/
theorem evt_val (ha : EvB X wd ρ a ra) (he : ∀ whole, isTrue a X.env whole = (do let v ← whole; standAt a.pos; holding [v] (truthy v)) := by exact fun _ => rfl) : EvT X wd ρ a (ra.bind fun x => boolR x) := fun F ad σ H Q s q => by
  refine bt (pt_val pe_b he) ?_
  rw [wp_bind] at q
  refine ha F ad σ H _ s (wp_mono (fun d q v H1 g1 r1 => ?_) (fun _ _ z => z) q)
  cases d with
  | bool i => exact ⟨i, r1.bool, q _ g1⟩
  | _ => exact q.elim
/-- a comparison as a test -/
theorem evt_cmp {op : CmpOp} {r : R2} {g : D → D → R D} (ho : OpR X (compareOp op) r) (hs : OpS X.K r g) (hm : behindInMarks op b = false) (ha : EvB X wd ρ a ra) (hb : EvB X wd ρ b rb) : EvT X wd ρ (.Compare a [op] [b] pos) (ra.bind fun x => rb.bind fun y => (g x y).bind boolR) := fun F ad σ H Q s q => by
  refine bt (pt_cmpR ho pe_b pe_b hm) ?_
  rw [wp_bind] at q
  refine ha F ad σ H _ s (wp_mono (fun d q v H1 g1 r1 => ?_) (fun _ _ z => z) q)
  rw [wp_bind] at q
  have s1 := s.grow g1
  refine hb F ad σ H1 _ s1 (wp_mono (fun d2 q v2 H2 g2 r2 => ?_) (fun _ _ z => z.grow g1) q)
  have s2 := s1.grow g2
  rw [wp_bind] at q
  refine hs (Ban F ρ ad) H2 v v2 d d2 _ _ (fun b z => s2.banned z) (r1.stay s1 g2).b r2.b (wp_mono (fun z q v H' sm r => ?_) (fun _ _ z => z) q)
  cases z with
  | bool i => exact ⟨i, RepB.bool (dr := none) (.inl r), q _ (g1.trans (g2.trans (Grow.same sm)))⟩
  | _ => exact q.elim
theorem evt_lt (ha : EvB X wd ρ a ra) (hb : EvB X wd ρ b rb) : EvT X wd ρ (.Compare a [.Lt] [b] pos) (ra.bind fun x => rb.bind fun y => (ltR x y).bind boolR) := evt_cmp op_lt opS_lt (nobehind _ (by decide) (by decide)) ha hb
theorem evt_le (ha : EvB X wd ρ a ra) (hb : EvB X wd ρ b rb) : EvT X wd ρ (.Compare a [.LtE] [b] pos) (ra.bind fun x => rb.bind fun y => (leR x y).bind boolR) := evt_cmp op_le opS_le (nobehind _ (by decide) (by decide)) ha hb
theorem evt_gt (ha : EvB X wd ρ a ra) (hb : EvB X wd ρ b rb) : EvT X wd ρ (.Compare a [.Gt] [b] pos) (ra.bind fun x => rb.bind fun y => (gtR x y).bind boolR) := evt_cmp op_gt opS_gt (nobehind _ (by decide) (by decide)) ha hb
theorem evt_ge (ha : EvB X wd ρ a ra) (hb : EvB X wd ρ b rb) : EvT X wd ρ (.Compare a [.GtE] [b] pos) (ra.bind fun x => rb.bind fun y => (geR x y).bind boolR) := evt_cmp op_ge opS_ge (nobehind _ (by decide) (by decide)) ha hb
theorem evt_eq (c : Cw CX k wd N sc X) (ha : EvB X wd ρ a ra) (hb : EvB X wd ρ b rb) : EvT X wd ρ (.Compare a [.Eq] [b] pos) (ra.bind fun x => rb.bind fun y => (eqR x y).bind boolR) := evt_cmp (op_eqD c.u64) opS_eq (nobehind _ (by decide) (by decide)) ha hb
theorem evt_ne (c : Cw CX k wd N sc X) (ha : EvB X wd ρ a ra) (hb : EvB X wd ρ b rb) : EvT X wd ρ (.Compare a [.NotEq] [b] pos) (ra.bind fun x => rb.bind fun y => (neR x y).bind boolR) := evt_cmp (op_neD c.u64) opS_ne (nobehind _ (by decide) (by decide)) ha hb
theorem evt_is (ha : EvB X wd ρ a ra) (hb : EvB X wd ρ b rb) : EvT X wd ρ (.Compare a [.Is] [b] pos) (ra.bind fun x => rb.bind fun y => (isR x y).bind boolR) := evt_cmp op_is2 opS_is (nobehind _ (by decide) (by decide)) ha hb
theorem evt_isNot (ha : EvB X wd ρ a ra) (hb : EvB X wd ρ b rb) : EvT X wd ρ (.Compare a [.IsNot] [b] pos) (ra.bind fun x => rb.bind fun y => (isNotR x y).bind boolR) := evt_cmp op_isNot2 opS_isNot (nobehind _ (by decide) (by decide)) ha hb
variable {ta tb : R Bool}
theorem evt_not (ha : EvT X wd ρ a ta) : EvT X wd ρ (.UnaryOp .Not a pos) (ta.bind fun b => R.ret (!b)) := fun F ad σ H Q s q => by
  refine bt (pt_not pt_b) ?_
  rw [wp_bind] at q
  exact ha F ad σ H _ s q
theorem evw_and1 (ha : EvT X wd ρ a ta) : EvW X wd ρ (.BoolOp .And [a] pos) ta := fun F ad σ H Q s q => bw (pw_and1 pt_b) (ha F ad σ H _ s q)
theorem evw_or1 (ha : EvT X wd ρ a ta) : EvW X wd ρ (.BoolOp .Or [a] pos) ta := fun F ad σ H Q s q => bw (pw_or1 pt_b) (ha F ad σ H _ s q)
theorem evw_and (ha : EvT X wd ρ a ta) (hb : EvW X wd ρ (.BoolOp .And (b :: rest) pos) tb) : EvW X wd ρ (.BoolOp .And (a :: b :: rest) pos) (ta.bind fun x => if x = true then tb else R.ret false) := fun F ad σ H Q s q => by
  refine bw (pw_and pt_b pw_b) ?_
  rw [wp_bind] at q
  refine ha F ad σ H _ s (wp_mono (fun x q H1 g1 => ?_) (fun _ _ z => z) q)
  cases x with
  | true => exact iteT (hb F ad σ H1 _ (s.grow g1) (postT_grow g1 q))
  | false => exact iteF (q _ g1)
theorem evw_or (ha : EvT X wd ρ a ta) (hb : EvW X wd ρ (.BoolOp .Or (b :: rest) pos) tb) : EvW X wd ρ (.BoolOp .Or (a :: b :: rest) pos) (ta.bind fun x => if x = true then R.ret true else tb) := fun F ad σ H Q s q => by
  refine bw (pw_or pt_b pw_b) ?_
  rw [wp_bind] at q
  refine ha F ad σ H _ s (wp_mono (fun x q H1 g1 => ?_) (fun _ _ z => z) q)
  cases x with
  | false => exact iteF (hb F ad σ H1 _ (s.grow g1) (postT_grow g1 q))
  | true => exact iteT (q _ g1)
theorem evt_w (ha : EvW X wd ρ a ta) : EvT X wd ρ a ta := fun F ad σ H Q s q => bt pw_b.pt (ha F ad σ H _ s q)
/-! .. as values -/
theorem ev_one {op : PySem.BoolOp} (ha : Ev X wd ρ a ra) : Ev X wd ρ (.BoolOp op [a] pos) ra := fun F ad σ H Q s q => be (pe_one pe_b) (ha F ad σ H _ s q)
theorem ev_and (ha : Ev X wd ρ a ra) (hb : Ev X wd ρ (.BoolOp .And (b :: rest) pos) rb) : Ev X wd ρ (.BoolOp .And (a :: b :: rest) pos) (ra.bind fun x => (boolR x).bind fun x => if x = true then rb else R.ret (.bool false)) := fun F ad σ H Q s q => by
  refine be (pe_and pe_b pe_b) ?_
  rw [wp_bind] at q
  refine ha F ad σ H _ s (wp_mono (fun x q v H1 g1 r1 => ?_) (fun _ _ z => z) q)
  cases x with
  | bool x =>
    refine ⟨x, RepB.bool (dr := none) (.inl r1), ?_⟩
    cases x with
    | true => exact iteT (hb F ad σ H1 _ (s.grow g1) (post_grow g1 q))
    | false => exact iteF (q _ _ g1 (.bl _))
  | _ => exact q.elim
theorem ev_or (ha : Ev X wd ρ a ra) (hb : Ev X wd ρ (.BoolOp .Or (b :: rest) pos) rb) : Ev X wd ρ (.BoolOp .Or (a :: b :: rest) pos) (ra.bind fun x => (boolR x).bind fun x => if x = true then R.ret (.bool true) else rb) := fun F ad σ H Q s q => by
  refine be (pe_or pe_b pe_b) ?_
  rw [wp_bind] at q
  refine ha F ad σ H _ s (wp_mono (fun x q v H1 g1 r1 => ?_) (fun _ _ z => z) q)
  cases x with
  | bool x =>
    refine ⟨x, RepB.bool (dr := none) (.inl r1), ?_⟩
    cases x with
    | false => exact iteF (hb F ad σ H1 _ (s.grow g1) (post_grow g1 q))
    | true => exact iteT (q _ _ g1 (.bl _))
  | _ => exact q.elim
theorem ev_not (ha : Ev X wd ρ a ra) : Ev X wd ρ (.UnaryOp .Not a pos) (ra.bind fun x => notR x) := fun F ad σ H Q s q => by
  refine be (pe_not pe_b) ?_
  rw [wp_bind] at q
  refine ha F ad σ H _ s (wp_mono (fun x q v H1 g1 r1 => ?_) (fun _ _ z => z) q)
  cases x with
  | bool x => exact ⟨x, RepB.bool (dr := none) (.inl r1), q _ _ g1 (.bl _)⟩
  | _ => exact q.elim
theorem ev_ifExp (hc : EvT X wd ρ c ta) (ha : Ev X wd ρ a ra) (hb : Ev X wd ρ b rb) : Ev X wd ρ (.IfExp c a b pos) (ta.bind fun x => if x = true then ra else rb) := fun F ad σ H Q s q => by
  refine be (pe_ifExp pt_b pe_b pe_b) ?_
  rw [wp_bind] at q
  refine hc F ad σ H _ s (wp_mono (fun x q H1 g1 => ?_) (fun _ _ z => z) q)
  cases x with
  | true => exact iteT (ha F ad σ H1 _ (s.grow g1) (post_grow g1 q))
  | false => exact iteF (hb F ad σ H1 _ (s.grow g1) (post_grow g1 q))
/-- a op b op' c of ints -/
theorem ev_chain {op op' : CmpOp} {r r' : R2} {g g' : D → D → R D} {rc : R D} (ho : OpR X (compareOp op) r) (ho' : OpR X (compareOp op') r') (hs : OpS X.K r g) (hs' : OpS X.K r' g') (ha : EvB X wd ρ a ra) (hb : EvB X wd ρ b rb) (hc : EvB X wd ρ c rc)
    (hm : lastMarks [op, op'] [b, c] = false := by with_unfolding_all rfl) :
    Ev X wd ρ (.Compare a [op, op'] [b, c] pos) (ra.bind fun x => rb.bind fun y => (g x y).bind fun z => (boolR z).bind fun k => if k = true then rc.bind fun w => g' y w else R.ret (.bool false)) := fun F ad σ H Q s q => by
  refine be (pe_chain ho ho' pe_b pe_b pe_b hm) ?_
  rw [wp_bind] at q
  refine ha F ad σ H _ s (wp_mono (fun d q v H1 g1 r1 => ?_) (fun _ _ z => z) q)
  rw [wp_bind] at q
  have s1 := s.grow g1
  refine hb F ad σ H1 _ s1 (wp_mono (fun d2 q v2 H2 g2 r2 => ?_) (fun _ _ z => z.grow g1) q)
  have s2 := s1.grow g2
  rw [wp_bind] at q
  refine hs (Ban F ρ ad) H2 v v2 d d2 _ _ (fun b z => s2.banned z) (r1.stay s1 g2).b r2.b (wp_mono (fun z q v3 H3 sm r3 => ?_) (fun _ _ z => z.grow (g1.trans g2)) q)
  cases z with
  | bool k =>
    refine ⟨k, RepB.bool (dr := none) (.inl r3), ?_⟩
    have g3 := Grow.same (dr := wd.dr) sm
    have s3 := s2.grow g3
    cases k with
    | false => exact iteF (q _ _ (g1.trans (g2.trans g3)) (.bl _))
    | true =>
      have q : wp (fun d => ∀ v H', Grow wd.dr H H' → Rep X.K (Ban F ρ ad) H' v d → Q v H') (XP X wd F ρ ad H) (rc.bind fun w => g' d2 w) := q
      rw [wp_bind] at q
      refine iteT (hc F ad σ H3 _ s3 (wp_mono (fun d4 q v4 H4 g4 r4 => ?_) (fun _ _ z => z.grow (g1.trans (g2.trans g3))) q))
      have s4 := s3.grow g4
      exact hs' (Ban F ρ ad) H4 v2 v4 d2 d4 _ _ (fun b z => s4.banned z) ((r2.stay s2 g3).stay s3 g4).b r4.b (wp_mono (fun (z : D) (q : ∀ (v : V) (H' : Hp), Grow wd.dr H H' → Rep X.K (Ban F ρ ad) H' v z → Q v H') (v5 : V) (H5 : Hp) sm5 r5 => q _ _ (g1.trans (g2.trans (g3.trans (g4.trans (Grow.same sm5))))) r5) (fun _ _ z => z) q)
  | _ => exact q.elim
/-! ### arguments, displays -/
theorem eva_nil : EvA X wd ρ [] (R.ret []) := fun F ad σ H Q s q => ba pa_nil (q _ _ (Grow.refl _ _) .nil)
theorem eva_cons {es : List Expr} {rs : R (List D)} (ha : Ev X wd ρ a ra) (hr : EvA X wd ρ es rs) (hs : starEach (a :: es) X.env = (false, eval a X.env) :: starEach es X.env := by rfl) : EvA X wd ρ (a :: es) (ra.bind fun d => rs.bind fun ds => R.ret (d :: ds)) := fun F ad σ H Q s q => by
  refine ba (pa_cons pe_b pa_b hs) ?_
  rw [wp_bind] at q
  refine ha F ad σ H _ s (wp_mono (fun d q v H1 g1 r1 => ?_) (fun _ _ z => z) q)
  rw [wp_bind] at q
  have s1 := s.grow g1
  refine hr F ad σ H1 _ s1 (wp_mono (fun ds q vs H2 g2 r2 => ?_) (fun _ _ z => z.grow g1) q)
  exact q _ _ (g1.trans g2) (.cons (r1.stay (s1.stays g2)) r2)
theorem ev_tup {es : List Expr} {x1 : Nat} {rs : R (List D)} (h : EvA X wd ρ es rs) : Ev X wd ρ (.Tuple es x1 pos) (rs.bind fun ds => if ds.length ≤ sizeLine then R.ret (.tuple ds) else bad) := fun F ad σ H Q s q => by
  refine be (pe_tup pa_b) ?_
  rw [wp_bind] at q
  refine h F ad σ H _ s (wp_mono (fun ds q vs H1 g1 r1 => ?_) (fun _ _ z => z) q)
  obtain ⟨hz, q⟩ := wp_ite q
  have s1 := s.grow g1
  exact ⟨by rw [r1.length]; exact hz, fun p hp => q _ _ (g1.trans (Grow.same (same_upd hp))) (newtup (fun b z => s1.banned z) hp r1)⟩
theorem evl_lst {es : List Expr} {rs : R (List D)} (h : EvA X wd ρ es rs) : EvL X wd ρ (.List es pos) (rs.bind fun ds => if ds.length ≤ sizeLine then R.ret ds else bad) := fun F ad σ H Q s q => by
  refine be (pe_lst pa_b) ?_
  rw [wp_bind] at q
  refine h F ad σ H _ s (wp_mono (fun ds q vs H1 g1 r1 => ?_) (fun _ _ z => z) q)
  obtain ⟨hz, q⟩ := wp_ite q
  have s1 := s.grow g1
  exact ⟨by rw [r1.length]; exact hz, fun p hp => q _ _ _ (g1.trans (Grow.same (same_upd hp))) (free_grow s g1 hp) upd_same ((r1.ban fun b z => by
    rcases z with z | rfl
    · exact .inl z
    · exact .inr hp).stay (same_stay (same_upd hp)))⟩
end
end Pu
/-! Pg: slices, built-in calls, what is walked, comprehensions, calls of defs. -/
namespace Pu
open PySem PySem.Spec PyProof.Rows L2 R
section
variable {CX : CXT} {k : Nat} {wd : Wd} {N : List Str} {sc : Scope} {X : Cx} {ρ : List Sl} {e a b c : Expr} {rest : List Expr} {pos p : Pos} {ra rb : R D}
/-! ### slices -/
def BO (X : Cx) (e : Option Expr) : TO := fun σ H Q => ∀ (pins : List (Addr × Obj)) (s : Shared), Inv X pins σ H s → wpAny (model X.prog X.w) X.A (evalPart e X.env) (fun u s' => ∃ o H', Inv X pins σ H' s' ∧ IsPart u o ∧ Q o H') X.xe s
theorem po_b {e : Option Expr} : PO X e (BO X e) := ⟨fun pins s _ _ _ I h => h pins s I⟩
theorem bo {e : Option Expr} {t : TO} {σ : L2.St} {H : Hp} {Q : Option Int → Hp → Prop} (h : PO X e t) (q : t σ H Q) : BO X e σ H Q := fun pins s I => h.run pins s σ H Q I q
def EvP (X : Cx) (wd : Wd) (ρ : List Sl) (e : Option Expr) (r : R (Option Int)) : Prop := ∀ (F : Addr → Prop) (ad : Nat → Addr) (σ : L2.St) (H : Hp) (Q : Option Int → Hp → Prop), StOk X.K wd.dr F ρ σ H ad →
  r.wp (fun i => ∀ H', Grow wd.dr H H' → Q i H') (XP X wd F ρ ad H) → BO X e σ H Q
theorem evp_none : EvP X wd ρ none (R.ret none) := fun F ad σ H Q s q => bo po_none (q _ (Grow.refl _ _))
theorem evp_some (ha : EvB X wd ρ a ra) : EvP X wd ρ (some a) (ra.bind fun x => partR x) := fun F ad σ H Q s q => by
  refine bo (po_some pe_b) ?_
  rw [wp_bind] at q
  refine ha F ad σ H _ s (wp_mono (fun d q v H1 g1 r1 => ?_) (fun _ _ z => z) q)
  cases d with
  | int i => exact ⟨i, r1.int, q _ g1⟩
  | _ => exact q.elim
theorem cut_reps {K : PySem.W.Frag} {B : Addr → Prop} {H : Hp} {vs : List V} {ds : List D} (r : Reps K B H vs ds) (lo hi : Option Int) : Reps K B H (cutV vs lo hi) (cutD ds lo hi) := by
  unfold cutV cutD
  rw [r.length]
  exact (r.drop _).take _
theorem ev_slice {lo hi : Option Expr} {p2 : Pos} {rl rh : R (Option Int)} (ha : EvB X wd ρ a ra) (hl : EvP X wd ρ lo rl) (hh : EvP X wd ρ hi rh) : Ev X wd ρ (.Subscript a (.Slice lo hi none p2) pos) (ra.bind fun x => rl.bind fun l => rh.bind fun h => sliceR x l h) := fun F ad σ H Q s q => by
  refine be (pe_slice (SlR.or sl_list (SlR.or sl_tupA sl_str)) pe_b po_b po_b) ?_
  rw [wp_bind] at q
  refine ha F ad σ H _ s (wp_mono (fun d q v H1 g1 r1 => ?_) (fun _ _ z => z) q)
  rw [wp_bind] at q
  have s1 := s.grow g1
  refine hl F ad σ H1 _ s1 (wp_mono (fun l q H2 g2 => ?_) (fun _ _ z => z.grow g1) q)
  rw [wp_bind] at q
  have s2 := s1.grow g2
  refine hh F ad σ H2 _ s2 (wp_mono (fun h q H3 g3 => ?_) (fun _ _ z => z.grow (g1.trans g2)) q)
  have s3 := s2.grow g3
  have r3 := (r1.stay s1 g2).stay s2 g3
  have g := g1.trans (g2.trans g3)
  have nb : ∀ b, Ban F ρ ad b → Bd H3 b := fun b z => s3.banned z
  cases d with
  | list ds =>
    obtain ⟨a1, vs, rfl, h1, rr⟩ := r3.list
    exact .inl ⟨a1, vs, rfl, .inl h1, fun p hp => q _ _ (g.trans (Grow.same (same_upd hp))) (newlst nb hp (cut_reps rr l h))⟩
  | tuple ds =>
    obtain ⟨a1, vs, rfl, h1, rr⟩ := r3.tuple
    refine .inr (.inl ⟨a1, vs, rfl, h1.sq, fun z => ?_, fun z p hp => q _ _ (g.trans (Grow.same (same_upd hp))) (newtup nb hp (cut_reps rr l h))⟩)
    have e : cutD ds l h = ds := by
      unfold cutD
      rw [← rr.length, z.1, z.2, List.drop_zero, Nat.sub_zero, rr.length]
      exact List.take_length
    refine q _ _ g ?_
    rw [e]
    exact .tup h1 rr
  | str z =>
    obtain ⟨hz, q⟩ := wp_ite q
    exact .inr (.inr ⟨z, r3.str, hz, q _ _ g (.str _)⟩)
  | _ => exact q.elim
/-! ### built-in calls -/
def CalS (K : PySem.W.Frag) (r : List V → Hp → VK → Prop) (g : D → R D) : Prop := ∀ (B : Addr → Prop) (H : Hp) (x : V) (d : D) (Q : VK) (E : Nat → D → Prop), (∀ b, B b → Bd H b) → RepB K none B H x d →
  (g d).wp (fun z => ∀ v H', Same H H' → Rep K B H' v z → Q v H') E → r [x] H Q
def CalS2 (K : PySem.W.Frag) (r : List V → Hp → VK → Prop) (g : D → D → R D) : Prop := ∀ (B : Addr → Prop) (H : Hp) (x y : V) (d e : D) (Q : VK) (E : Nat → D → Prop), (∀ b, B b → Bd H b) → RepB K none B H x d → RepB K none B H y e →
  (g d e).wp (fun z => ∀ v H', Same H H' → Rep K B H' v z → Q v H') E → r [x, y] H Q
theorem call_core {f : Expr} {r : List V → Hp → VK → Prop} {g : D → R D} (hp : PE X (.Call f [a] [] pos) (tCB r (tCons (BE X a) tNil))) (hs : CalS X.K r g) (ha : EvB X wd ρ a ra) : Ev X wd ρ (.Call f [a] [] pos) (ra.bind fun x => g x) := fun F ad σ H Q s q => by
  refine be hp ?_
  rw [wp_bind] at q
  refine ha F ad σ H _ s (wp_mono (fun d q v H1 g1 r1 => ?_) (fun _ _ z => z) q)
  have s1 := s.grow g1
  exact hs (Ban F ρ ad) H1 v d Q _ (fun b z => s1.banned z) r1.b (wp_mono (fun z q v H' sm r => q v H' (g1.trans (Grow.same sm)) r) (fun _ _ z => z) q)
theorem call_core2 {f : Expr} {r : List V → Hp → VK → Prop} {g : D → D → R D} (hp : PE X (.Call f [a, b] [] pos) (tCB r (tCons (BE X a) (tCons (BE X b) tNil)))) (hs : CalS2 X.K r g) (ha : EvB X wd ρ a ra) (hb : EvB X wd ρ b rb) : Ev X wd ρ (.Call f [a, b] [] pos) (ra.bind fun x => rb.bind fun y => g x y) := fun F ad σ H Q s q => by
  refine be hp ?_
  rw [wp_bind] at q
  refine ha F ad σ H _ s (wp_mono (fun d q v H1 g1 r1 => ?_) (fun _ _ z => z) q)
  rw [wp_bind] at q
  have s1 := s.grow g1
  refine hb F ad σ H1 _ s1 (wp_mono (fun d2 q v2 H2 g2 r2 => ?_) (fun _ _ z => z.grow g1) q)
  have s2 := s1.grow g2
  exact hs (Ban F ρ ad) H2 v v2 d d2 Q _ (fun b z => s2.banned z) (r1.stay s1 g2).b r2.b (wp_mono (fun z q v H' sm r => q v H' (g1.trans (g2.trans (Grow.same sm))) r) (fun _ _ z => z) q)
/-- the arguments' form: no star -/
def Plain (X : Cx) (a : Expr) : Prop := ∀ es, starEach (a :: es) X.env = (false, eval a X.env) :: starEach es X.env
theorem ev_b1 (c : Cw CX k wd N sc X) {x : Str} {id : String} {r : List V → Hp → VK → Prop} {g : D → R D} (hc : CallR X (.builtin id) r) (hs : CalS X.K r g) (hg : glB sc x = true) (hm : X.mg x = none) (hv : bootBuiltins x = some (.builtin id)) (ha : EvB X wd ρ a ra)
    (he : Plain X a := by exact fun _ => rfl) : Ev X wd ρ (.Call (.Name x p) [a] [] pos) (ra.bind fun x => g x) :=
  call_core (pe_callB hc (c.gl hg).1 hm hv (pa_cons pe_b pa_nil (he [])) (c.gl hg).2.2 (c.gl hg).2.1 (he []) rfl) hs ha
theorem ev_t1 (c : Cw CX k wd N sc X) {x : Str} {id : String} {r : List V → Hp → VK → Prop} {g : D → R D} (hc : CallR X (.type id) r) (hs : CalS X.K r g) (hg : glB sc x = true) (hm : X.mg x = none) (hv : bootBuiltins x = some (.type id)) (ha : EvB X wd ρ a ra)
    (he : Plain X a := by exact fun _ => rfl) : Ev X wd ρ (.Call (.Name x p) [a] [] pos) (ra.bind fun x => g x) :=
  call_core (pe_callTy hc (c.gl hg).1 hm hv (pa_cons pe_b pa_nil (he [])) (c.gl hg).2.2 (c.gl hg).2.1 (he []) rfl) hs ha
theorem ev_b2 (c : Cw CX k wd N sc X) {x : Str} {id : String} {r : List V → Hp → VK → Prop} {g : D → D → R D} (hc : CallR X (.builtin id) r) (hs : CalS2 X.K r g) (hg : glB sc x = true) (hm : X.mg x = none) (hv : bootBuiltins x = some (.builtin id)) (ha : EvB X wd ρ a ra) (hb : EvB X wd ρ b rb)
    (he : Plain X a := by exact fun _ => rfl) (he2 : Plain X b := by exact fun _ => rfl) : Ev X wd ρ (.Call (.Name x p) [a, b] [] pos) (ra.bind fun x => rb.bind fun y => g x y) :=
  call_core2 (pe_callB hc (c.gl hg).1 hm hv (pa_cons pe_b (pa_cons pe_b pa_nil (he2 [])) (he [b])) (c.gl hg).2.2 (c.gl hg).2.1 (he [b]) (by rw [he2 []]; rfl)) hs ha hb
end
section
variable {K : PySem.W.Frag}
theorem calS_len : CalS K (fun xs H Q => ∃ x n, xs = [x] ∧ LenV K x H n ∧ Q (.int n) H) lenR := by
  intro B H x d Q E nb r q
  cases d with
  | str z =>
    obtain ⟨h, q⟩ := wp_ite q
    exact ⟨x, z.length, rfl, by rw [r.str]; exact ⟨h, rfl⟩, q _ _ (Same.refl _) (.int _)⟩
  | list ds =>
    obtain ⟨a, vs, rfl, e, rr⟩ := r.list
    exact ⟨_, ds.length, rfl, .inl ⟨vs, .inl e, rr.length.symm⟩, q _ _ (Same.refl _) (.int _)⟩
  | tuple ds =>
    obtain ⟨a, vs, rfl, e, rr⟩ := r.tuple
    exact ⟨_, ds.length, rfl, .inr ⟨vs, e.sq, rr.length.symm⟩, q _ _ (Same.refl _) (.int _)⟩
  | _ => exact q.elim
theorem calS_tuple : CalS K (fun xs H Q => ∃ p ys, xs = [.ref p] ∧ ((SqL K H p ys ∧ ∀ l, H l = none → Q (.ref l) (upd H l (.tup ys))) ∨ (SqT K H p ys ∧ Q (.ref p) H))) tupleR := by
  intro B H x d Q E nb r q
  cases d with
  | list ds =>
    obtain ⟨a, vs, rfl, e, rr⟩ := r.list
    exact ⟨a, vs, rfl, .inl ⟨.inl e, fun p hp => q _ _ (same_upd hp) (newtup nb hp rr)⟩⟩
  | tuple ds =>
    obtain ⟨a, vs, rfl, e, rr⟩ := r.tuple
    exact ⟨a, vs, rfl, .inr ⟨e.sq, q _ _ (Same.refl _) (.tup e rr)⟩⟩
  | _ => exact q.elim
theorem calS_list : CalS K (fun xs H Q => ∃ p ys, xs = [.ref p] ∧ (SqL K H p ys ∨ SqT K H p ys) ∧ ∀ l, H l = none → Q (.ref l) (upd H l (.lst ys))) listR := by
  intro B H x d Q E nb r q
  cases d with
  | list ds =>
    obtain ⟨a, vs, rfl, e, rr⟩ := r.list
    exact ⟨a, vs, rfl, .inl (.inl e), fun p hp => q _ _ (same_upd hp) (newlst nb hp rr)⟩
  | tuple ds =>
    obtain ⟨a, vs, rfl, e, rr⟩ := r.tuple
    exact ⟨a, vs, rfl, .inr e.sq, fun p hp => q _ _ (same_upd hp) (newlst nb hp rr)⟩
  | _ => exact q.elim
theorem calS_abs : CalS K (fun xs H Q => ∃ i, xs = [.int i] ∧ Q (.int (if i < 0 then -i else i)) H) absR := by
  intro B H x d Q E nb r q
  cases d with
  | int i => exact ⟨i, by rw [r.int], q _ _ (Same.refl _) (.int _)⟩
  | _ => exact q.elim
theorem calS_int : CalS K (fun xs H Q => (∃ i, xs = [.int i] ∧ Q (.int i) H) ∨ ∃ k, xs = [.bl k] ∧ Q (.int (if k then 1 else 0)) H) intR := by
  intro B H x d Q E nb r q
  cases d with
  | int i => exact .inl ⟨i, by rw [r.int], q _ _ (Same.refl _) (.int _)⟩
  | bool i => exact .inr ⟨i, by rw [r.bool], q _ _ (Same.refl _) (.int _)⟩
  | _ => exact q.elim
theorem calS_max : CalS2 K (fun xs H Q => ∃ i j, xs = [.int i, .int j] ∧ Q (.int (if j > i then j else i)) H) maxR := by
  intro B H x y d e Q E nb r r' q
  cases d with
  | int i =>
    cases e with
    | int j => exact ⟨i, j, by rw [r.int, r'.int], q _ _ (Same.refl _) (.int _)⟩
    | _ => exact q.elim
  | _ => cases e <;> exact q.elim
theorem calS_min : CalS2 K (fun xs H Q => ∃ i j, xs = [.int i, .int j] ∧ Q (.int (if j < i then j else i)) H) minR := by
  intro B H x y d e Q E nb r r' q
  cases d with
  | int i =>
    cases e with
    | int j => exact ⟨i, j, by rw [r.int, r'.int], q _ _ (Same.refl _) (.int _)⟩
    | _ => exact q.elim
  | _ => cases e <;> exact q.elim
theorem reps_ints {B : Addr → Prop} {H : Hp} : ∀ {ds : List D} {vs : List V} {ns : List Int}, Reps K B H vs ds → allSome intOf ds = some ns → vs = ns.map V.int
  | [], _, _, h, e => by cases h; cases e; rfl
  | d :: ds, _, ns, h, e => by
    cases h with
    | cons a b =>
      unfold allSome at e
      cases d with
      | int i =>
        cases e2 : allSome intOf ds with
        | none => rw [e2] at e; cases e
        | some ms =>
          rw [e2] at e
          cases e
          cases a
          rw [reps_ints b e2]
          rfl
      | _ => cases e
theorem reps_bools {B : Addr → Prop} {H : Hp} : ∀ {ds : List D} {vs : List V} {ns : List Bool}, Reps K B H vs ds → allSome boolOf ds = some ns → vs = ns.map V.bl
  | [], _, _, h, e => by cases h; cases e; rfl
  | d :: ds, _, ns, h, e => by
    cases h with
    | cons a b =>
      unfold allSome at e
      cases d with
      | bool i =>
        cases e2 : allSome boolOf ds with
        | none => rw [e2] at e; cases e
        | some ms =>
          rw [e2] at e
          cases e
          cases a
          rw [reps_bools b e2]
          rfl
      | _ => cases e
/-- sum(xs) of a list or a tuple of ints -/
def rSumT (K : PySem.W.Frag) : List V → Hp → VK → Prop := fun vs H Q => ∃ (a : Addr) (ns : List Int), vs = [V.ref a] ∧ (SqL K H a (ns.map V.int) ∨ SqT K H a (ns.map V.int)) ∧ Q (.int ns.sum) H
theorem cr_sumT {X : Cx} (hc : X.calm = true) : CallR X (.builtin "sum") (rSumT X.K) := by
  intro pins s σ H vs us Q I r h
  obtain ⟨a, ns, rfl, hs | hs, q⟩ := h
  · exact cr_sum hc pins s σ H _ us Q I r ⟨a, ns, rfl, hs, q⟩
  · obtain ⟨its, rv, hl, _⟩ := I.tuple hs
    rw [Vals.ref1 r]
    obtain ⟨xs, e⟩ := rv.ints.allInts.items
    have hn : numsOf (intItems xs).toList = ns := by rw [← e]; exact rv.ints.numsOf
    rw [nums_intItems] at hn
    rw [e] at hl
    refine PySem.W.ktm_sumG (I.ok.hd hc) hl fun h' tk t' hk => ⟨.int _, H, I.kept hk, ⟨_, rfl⟩, ?_⟩
    rw [preSum_eq, List.take_of_length_le (by simp), hn]
    exact q
theorem calS_sum : CalS K (rSumT K) sumR := by
  intro B H x d Q E nb r q
  cases d with
  | list ds =>
    obtain ⟨a, vs, rfl, e, rr⟩ := r.list
    unfold sumR at q
    cases e2 : allSome intOf ds with
    | none => simp only [e2] at q; exact q.elim
    | some ns =>
      simp only [e2] at q
      exact ⟨a, ns, rfl, .inl (by rw [← reps_ints rr e2]; exact .inl e), q _ _ (Same.refl _) (.int _)⟩
  | tuple ds =>
    obtain ⟨a, vs, rfl, e, rr⟩ := r.tuple
    unfold sumR at q
    cases e2 : allSome intOf ds with
    | none => simp only [e2] at q; exact q.elim
    | some ns =>
      simp only [e2] at q
      exact ⟨a, ns, rfl, .inr (by rw [← reps_ints rr e2]; exact e.sq), q _ _ (Same.refl _) (.int _)⟩
  | _ => exact q.elim
theorem calS_all : CalS K (rAll K) allR := by
  intro B H x d Q E nb r q
  cases d with
  | list ds =>
    obtain ⟨a, vs, rfl, e, rr⟩ := r.list
    unfold allR at q
    cases e2 : allSome boolOf ds with
    | none => simp only [e2] at q; exact q.elim
    | some ns =>
      simp only [e2] at q
      exact ⟨a, ns, rfl, by rw [← reps_bools rr e2]; exact .inl e, q _ _ (Same.refl _) (.bl _)⟩
  | _ => exact q.elim
theorem calS_any : CalS K (rAny K) anyR := by
  intro B H x d Q E nb r q
  cases d with
  | list ds =>
    obtain ⟨a, vs, rfl, e, rr⟩ := r.list
    unfold anyR at q
    cases e2 : allSome boolOf ds with
    | none => simp only [e2] at q; exact q.elim
    | some ns =>
      simp only [e2] at q
      exact ⟨a, ns, rfl, by rw [← reps_bools rr e2]; exact .inl e, q _ _ (Same.refl _) (.bl _)⟩
  | _ => exact q.elim
theorem tyx_of {B : Addr → Prop} {H : Hp} {x : V} {d : D} (r : RepB K dr B H x d) : TyX K H x (.type (tyN d)) := by
  cases d with
  | none => rw [r.non]; exact .base .non
  | bool b => rw [r.bool]; exact .base (.bl _)
  | int b => rw [r.int]; exact .base (.int _)
  | str b => rw [r.str]; exact .base (.str _)
  | list ds =>
    obtain ⟨a, vs, rfl, e, _⟩ := r.list
    rcases e with e | ⟨o, e⟩
    · exact .base (.lst e)
    · exact .base (.frz e)
  | tuple ds =>
    obtain ⟨a, vs, rfl, e, _⟩ := r.tuple
    rcases e.sq with (e | ⟨o, e⟩) | ⟨o, _, _, e, c, _⟩
    · exact .base (.tup e)
    · exact .fTuple e
    · exact .kTuple e c
  | dict _ => exact r.nodict.elim
end
section
variable {CX : CXT} {k : Nat} {wd : Wd} {N : List Str} {sc : Scope} {X : Cx} {ρ : List Sl} {e a b c : Expr} {rest : List Expr} {pos p : Pos} {ra rb : R D}
/-- isinstance(a, T), T a built-in type -/
theorem ev_isi (c : Cw CX k wd N sc X) {T : String} {y : Str} {py : Pos} (hg : glB sc "isinstance" = true) (hm : X.mg "isinstance" = none) (hv : bootBuiltins "isinstance" = some (.builtin "isinstance")) (gy : glB sc y = true) (my : X.mg y = none) (vy : bootBuiltins y = some (.type T)) (ha : EvB X wd ρ a ra)
    (he : Plain X a := by exact fun _ => rfl) : Ev X wd ρ (.Call (.Name "isinstance" p) [a, .Name y py] [] pos) (ra.bind fun x => isiR T x) := fun F ad σ H Q s q => by
  refine be (pe_callB call_isi (c.gl hg).1 hm hv (pa_cons pe_b (pa_cons (pe_bltn (v := .ty T) (c.gl gy).1 my vy rfl (c.gl gy).2.2 (c.gl gy).2.1) pa_nil rfl) (he _)) (c.gl hg).2.2 (c.gl hg).2.1 (he _) rfl) ?_
  rw [wp_bind] at q
  refine ha F ad σ H _ s (wp_mono (fun d q v H1 g1 r1 => ?_) (fun _ _ z => z) q)
  unfold isiR at q
  cases e : kitB (tyN d) T with
  | none => simp only [e] at q; exact q.elim
  | some b =>
    simp only [e] at q
    exact ⟨v, _, _, _, b, rfl, .ty T, tyx_of r1, kit_ty e, q _ _ g1 (.bl _)⟩
/-! ### what is walked -/
/-- J yields ds, as long as the heap moves by S; new places may be banned besides -/
def ItOk (S : (Addr → Prop) → Hp → Hp → Prop) (K : PySem.W.Frag) (B : Addr → Prop) (J : It) (H0 : Hp) (ds : List D) : Prop :=
  ∀ B' : Addr → Prop, (∀ b, B' b → B b ∨ H0 b = none) → (∀ b, B b → B' b) → ∃ Vd : Hp → Prop, Vd H0 ∧ (∀ H H', Vd H → S B' H H' → Vd H') ∧ (∀ H i, Vd H → i < ds.length → J.go i H) ∧
    (∀ H i x H' d, Vd H → J.yld i H x H' → ds[i]? = some d → Same H H' ∧ Rep K B' H' x d) ∧ (∀ H, Vd H → J.stop ds.length H)
theorem ItOk.mono {S S' : (Addr → Prop) → Hp → Hp → Prop} {K : PySem.W.Frag} {B : Addr → Prop} {J : It} {H0 : Hp} {ds : List D} (h : ItOk S K B J H0 ds) (hs : ∀ B' H H', (∀ b, B b → B' b) → S' B' H H' → S B' H H') : ItOk S' K B J H0 ds := by
  intro B' hb hB
  obtain ⟨Vd, h0, h1, h2, h3, h4⟩ := h B' hb hB
  exact ⟨Vd, h0, fun H H' v z => h1 H H' v (hs _ _ _ hB z), h2, h3, h4⟩
def EvI (X : Cx) (wd : Wd) (ρ : List Sl) (tg e : Expr) (r : R (List D)) : Prop := ∀ (F : Addr → Prop) (ad : Nat → Addr) (σ : L2.St) (H : Hp) (Rq : It → Hp → Prop), StOk X.K wd.dr F ρ σ H ad →
  r.wp (fun ds => ∀ J H', Grow wd.dr H H' → ItOk Stay X.K (Ban F ρ ad) J H' ds → Rq J H') (XP X wd F ρ ad H) → BI X tg e σ H Rq
def EvJ (X : Cx) (wd : Wd) (ρ : List Sl) (tg e : Expr) (r : R (List D)) : Prop := ∀ (F : Addr → Prop) (ad : Nat → Addr) (σ : L2.St) (H : Hp) (Rq : It → Hp → Prop), StOk X.K wd.dr F ρ σ H ad →
  r.wp (fun ds => ∀ J H', Grow wd.dr H H' → ItOk (fun _ => Grow wd.dr) X.K (Ban F ρ ad) J H' ds → Rq J H') (XP X wd F ρ ad H) → BI X tg e σ H Rq
theorem EvI.j {tg : Expr} {r : R (List D)} (h : EvI X wd ρ tg a r) : EvJ X wd ρ tg a r := fun F ad σ H Rq s q =>
  h F ad σ H Rq s (wp_mono (fun ds z J H' g i => z J H' g (i.mono fun B' H1 H2 hB g2 b o e nb => g2.keep b o e fun z => nb (hB _ (s.drF z)))) (fun _ _ z => z) q)
/-- a list, a tuple or a text, by values -/
theorem bi_seq {tg : Expr} {σ : L2.St} {H : Hp} {Rq : It → Hp → Prop}
    (h : BE X a σ H fun x H1 => (∃ l xs, x = .ref l ∧ SqL X.K H1 l xs ∧ Rq (Itl X.K l) H1) ∨ (∃ l xs, x = .ref l ∧ SqT X.K H1 l xs ∧ Rq (Itt X.K l) H1) ∨ ∃ z, x = .str z ∧ Rq (Its z) H1) : BI X tg a σ H Rq := by
  intro pins s I
  refine thn (h pins s I) fun v s1 ⟨x, H1, I1, r1, q1⟩ => ?_
  rcases q1 with ⟨l, xs, rfl, hq, q⟩ | ⟨l, xs, rfl, hq, q⟩ | ⟨z, rfl, q⟩
  · cases r1
    obtain ⟨its, rv, p, hz⟩ := I1.list hq
    refine wpAny_pyIter_list p.isList ?_
    refine ⟨s1.heap.objs.size, [s1.heap.objs.size], _, _, H1, rfl, I1.kept (t' := s1.toks) fun b o e => Heap.get?_push_of_some _ e, turn_list l _, ⟨_, Heap.get?_push_size _ rfl, rfl, rfl⟩, fun b hb => ?_, q⟩
    have e : b = s1.heap.objs.size := by simpa using hb
    subst e
    exact I1.fpOk (Nat.le_refl _) (I1.hok.fresh (Nat.le_refl _))
  · cases r1
    obtain ⟨its, rv, p, hz⟩ := I1.tuple hq
    refine wpAny_pyIter_tuple (show s1.heap.IsTuple l its.toArray from p) ?_
    refine ⟨s1.heap.objs.size, [s1.heap.objs.size], _, _, H1, rfl, I1.kept (t' := s1.toks) fun b o e => Heap.get?_push_of_some _ e, turn_tuple l _, ⟨_, Heap.get?_push_size _ rfl, rfl, rfl⟩, fun b hb => ?_, q⟩
    have e : b = s1.heap.objs.size := by simpa using hb
    subst e
    exact I1.fpOk (Nat.le_refl _) (I1.hok.fresh (Nat.le_refl _))
  · obtain ⟨t, rfl⟩ := r1
    cases ha : z.cps.all (· < 128)
    · exact wpAny_pyIter_wide ha (pi_one (tk := s1.toks) I1 _ (turn_str _ z t "str_iterator" (.inr rfl)) ⟨_, Heap.get?_push_size _ rfl, rfl, rfl⟩ q)
    · exact wpAny_pyIter_ascii ha (pi_one (tk := s1.toks) I1 _ (turn_str _ z t "str_ascii_iterator" (.inl rfl)) ⟨_, Heap.get?_push_size _ rfl, rfl, rfl⟩ q)
theorem sqL_inj {K : PySem.W.Frag} {H : Hp} {l : Addr} {xs ys : List V} (h : H l = some (.lst xs)) (hn : K.lookup l = none) (q : SqL K H l ys) : ys = xs := by
  rcases q with (q | ⟨o, q⟩) | ⟨o, _, _, q, _⟩
  · rw [h] at q; cases q; rfl
  · rw [h] at q; cases q
  · rw [hn] at q; cases q
theorem itl_ok {K : PySem.W.Frag} {B : Addr → Prop} {H : Hp} {l : Addr} {vs : List V} {ds : List D} {S : (Addr → Prop) → Hp → Hp → Prop} (e : Rd H l (.lst vs)) (r : Reps K B H vs ds)
    (h1 : ∀ B' : Addr → Prop, (∀ b, B' b → B b ∨ H b = none) → ∀ H1 H2, Rd H1 l (.lst vs) → S B' H1 H2 → Rd H2 l (.lst vs)) (h2 : ∀ (B' : Addr → Prop) (H1 H2 : Hp), (∀ b, B b → B' b) → S B' H1 H2 → Stay B' H1 H2) :
    ItOk S K B (Itl K l) H ds := by
  intro B' hb hB
  refine ⟨fun H => Rd H l (.lst vs) ∧ Reps K B' H vs ds, ⟨e, r.ban hb⟩, fun H1 H2 q s => ⟨h1 B' hb _ _ q.1 s, q.2.stay (h2 _ _ _ hB s)⟩, fun H1 i q hi => ?_, fun H1 i x H2 d q y ed => ?_, fun H1 q => ⟨vs, .inl q.1, by rw [q.2.length]; exact Nat.le_refl _⟩⟩
  · have hi' : i < vs.length := by rw [q.2.length]; exact hi
    exact ⟨vs, vs[i], .inl q.1, List.getElem?_eq_getElem hi'⟩
  · obtain ⟨rfl, y⟩ := y
    obtain ⟨v, e1, rv⟩ := q.2.get ed
    have e2 := y vs (.inl q.1)
    rw [e1] at e2
    cases e2
    exact ⟨Same.refl _, rv⟩
theorem itt_ok {K : PySem.W.Frag} {B : Addr → Prop} {H : Hp} {l : Addr} {vs : List V} {ds : List D} {S : (Addr → Prop) → Hp → Hp → Prop} (e : TpS K B H l vs) (r : Reps K B H vs ds)
    (h2 : ∀ (B' : Addr → Prop) (H1 H2 : Hp), (∀ b, B b → B' b) → S B' H1 H2 → Stay B' H1 H2) : ItOk S K B (Itt K l) H ds := by
  intro B' hb hB
  refine ⟨fun H => TpS K B' H l vs ∧ Reps K B' H vs ds, ⟨e.ban hb, r.ban hb⟩, fun H1 H2 q s => ⟨q.1.stay (h2 _ _ _ hB s), q.2.stay (h2 _ _ _ hB s)⟩, fun H1 i q hi => ?_, fun H1 i x H2 d q y ed => ?_, fun H1 q => ⟨vs, q.1.sq, by rw [q.2.length]; exact Nat.le_refl _⟩⟩
  · have hi' : i < vs.length := by rw [q.2.length]; exact hi
    exact ⟨vs, vs[i], q.1.sq, List.getElem?_eq_getElem hi'⟩
  · obtain ⟨rfl, y⟩ := y
    obtain ⟨v, e1, rv⟩ := q.2.get ed
    have e2 := y vs q.1.sq
    rw [e1] at e2
    cases e2
    exact ⟨Same.refl _, rv⟩
theorem its_ok {K : PySem.W.Frag} {B : Addr → Prop} {H : Hp} {z : Str} {S : (Addr → Prop) → Hp → Hp → Prop} : ItOk S K B (Its z) H (z.cps.toList.map fun c => PyData.str ⟨#[c]⟩) := by
  intro B' hb hB
  refine ⟨fun _ => True, trivial, fun _ _ _ _ => trivial, fun H1 i _ hi => by show i < z.cps.size; simpa using hi, fun H1 i x H2 d _ y ed => ?_, fun H1 _ => by show z.cps.size ≤ _; simp⟩
  obtain ⟨rfl, c, ec, rfl⟩ := y
  rw [List.getElem?_map] at ed
  have ec' : z.cps.toList[i]? = some c := by rw [Array.getElem?_toList]; exact ec
  rw [ec'] at ed
  cases ed
  exact ⟨Same.refl _, .str _⟩
theorem itr_ok {K : PySem.W.Frag} {B : Addr → Prop} {H : Hp} {lo : Int} {n : Nat} {S : (Addr → Prop) → Hp → Hp → Prop} : ItOk S K B (Itr lo n) H (rangeL lo n) := by
  have hl : (rangeL lo n).length = n := by unfold rangeL; rw [List.length_map, List.length_range]
  intro B' hb hB
  refine ⟨fun _ => True, trivial, fun _ _ _ _ => trivial, fun H1 i _ hi => by rw [hl] at hi; exact hi, fun H1 i x H2 d _ y ed => ?_, fun H1 _ => by rw [hl]; exact Nat.le_refl _⟩
  obtain ⟨rfl, rfl⟩ := y
  unfold rangeL at ed
  rw [List.getElem?_map] at ed
  by_cases hi : i < n
  · rw [List.getElem?_range hi] at ed
    cases ed
    exact ⟨Same.refl _, .int _⟩
  · rw [List.getElem?_eq_none (by rw [List.length_range]; omega)] at ed
    cases ed
theorem evi_seq {tg : Expr} (ha : Ev X wd ρ a ra) : EvI X wd ρ tg a (ra.bind fun x => itemsR x) := fun F ad σ H Rq s q => by
  refine bi_seq ?_
  rw [wp_bind] at q
  refine ha F ad σ H _ s (wp_mono (fun d q v H1 g1 r1 => ?_) (fun _ _ z => z) q)
  have s1 := s.grow g1
  cases d with
  | list ds =>
    cases r1 with
    | @lst l vs _ e nb rr =>
      refine .inl ⟨l, vs, rfl, .inl e, q _ _ g1 (itl_ok e rr (fun B' hb H2 H3 e2 st => ?_) fun _ _ _ _ st => st)⟩
      have nb' : ¬ B' l := fun z => by
        rcases hb _ z with z | z
        · exact nb z
        · rcases e with e | ⟨o, e⟩ <;> (rw [e] at z; cases z)
      exact e2.imp (fun z => st _ _ z nb') fun ⟨o, z⟩ => ⟨o, st _ _ z nb'⟩
  | tuple ds =>
    cases r1 with
    | @tup l vs _ e rr => exact .inr (.inl ⟨l, vs, rfl, e.sq, q _ _ g1 (itt_ok e rr fun _ _ _ _ st => st)⟩)
  | str z =>
    cases r1
    exact .inr (.inr ⟨z, rfl, q _ _ g1 its_ok⟩)
  | _ => exact q.elim
theorem evj_seq {tg : Expr} (ha : EvB X wd ρ a ra) : EvJ X wd ρ tg a (ra.bind fun x => itemsR x) := fun F ad σ H Rq s q => by
  refine bi_seq ?_
  rw [wp_bind] at q
  refine ha F ad σ H _ s (wp_mono (fun d q v H1 g1 r1 => ?_) (fun _ _ z => z) q)
  have s1 := s.grow g1
  have gs : ∀ (B' : Addr → Prop) (H2 H3 : Hp), (∀ b, Ban F ρ ad b → B' b) → Grow wd.dr H2 H3 → Stay B' H2 H3 := fun B' H2 H3 hB g2 b o e nb => g2.keep b o e fun z => nb (hB _ (s.drF z))
  cases d with
  | list ds =>
    obtain ⟨l, vs, rfl, e, rr, nd⟩ := r1.listN s1
    refine .inl ⟨l, vs, rfl, .inl e, q _ _ g1 (itl_ok e rr (fun B' hb H2 H3 e2 g2 => ?_) gs)⟩
    exact e2.imp (fun z => g2.keep _ _ z nd) fun ⟨o, z⟩ => ⟨o, g2.keep _ _ z nd⟩
  | tuple ds =>
    obtain ⟨l, vs, rfl, e, rr⟩ := r1.tuple
    exact .inr (.inl ⟨l, vs, rfl, e.sq, q _ _ g1 (itt_ok e rr gs)⟩)
  | str z =>
    rw [r1.str]
    exact .inr (.inr ⟨z, rfl, q _ _ g1 its_ok⟩)
  | _ => exact q.elim
theorem evi_rng1 (c : Cw CX k wd N sc X) {tg : Expr} (hg : glB sc "range" = true) (hm : X.mg "range" = none) (ha : EvB X wd ρ a ra) (he : Plain X a := by exact fun _ => rfl) : EvI X wd ρ tg (.Call (.Name "range" p) [a] [] pos) (ra.bind fun x => rng1R x) := fun F ad σ H Rq s q => by
  refine bi (pi_range1 (c.gl hg).1 hm (pa_cons pe_b pa_nil (he [])) (he [])) ?_
  rw [wp_bind] at q
  refine ha F ad σ H _ s (wp_mono (fun d q v H1 g1 r1 => ?_) (fun _ _ z => z) q)
  cases d with
  | int j =>
    obtain ⟨⟨h1, h2⟩, q⟩ := wp_ite q
    exact ⟨j, by rw [r1.int], h1, h2, q _ _ g1 itr_ok⟩
  | _ => exact q.elim
theorem evi_rng2 (c : Cw CX k wd N sc X) {tg : Expr} (hg : glB sc "range" = true) (hm : X.mg "range" = none) (ha : EvB X wd ρ a ra) (hb : EvB X wd ρ b rb) (he : Plain X a := by exact fun _ => rfl) (he2 : Plain X b := by exact fun _ => rfl) : EvI X wd ρ tg (.Call (.Name "range" p) [a, b] [] pos) (ra.bind fun x => rb.bind fun y => rng2R x y) := fun F ad σ H Rq s q => by
  refine bi (pi_range2 (c.gl hg).1 hm (pa_cons pe_b (pa_cons pe_b pa_nil (he2 [])) (he [b])) (by rw [he [b], he2 []]; rfl) (he2 [])) ?_
  rw [wp_bind] at q
  refine ha F ad σ H _ s (wp_mono (fun d q v H1 g1 r1 => ?_) (fun _ _ z => z) q)
  rw [wp_bind] at q
  have s1 := s.grow g1
  refine hb F ad σ H1 _ s1 (wp_mono (fun d2 q v2 H2 g2 r2 => ?_) (fun _ _ z => z.grow g1) q)
  cases d with
  | int i =>
    cases d2 with
    | int j =>
      obtain ⟨h1, q⟩ := wp_ite q
      exact ⟨i, j, by rw [r1.int, r2.int], h1, q _ _ (g1.trans g2) itr_ok⟩
    | _ => exact q.elim
  | _ => cases d2 <;> exact q.elim
end
end Pu
/-! Ph: targets, comprehensions, calls of defs. -/
namespace Pu
open PySem PySem.Spec PyProof.Rows L2 R
/-! ### slots are set -/
section
variable {K : PySem.W.Frag} {dr : Drs} {F : Addr → Prop} {ρ ρ' : List Sl} {σ σ' : L2.St} {H H' : Hp} {ad ad' : Nat → Addr}
theorem own_set {ρ : List Sl} {i j : Nat} {d : D} (h : Own (ρ.set i (.d d)) j) : Own ρ j ∧ j ≠ i := by
  obtain ⟨s, e, q⟩ := h
  by_cases hj : j = i
  · subst hj
    by_cases hl : j < ρ.length
    · rw [List.getElem?_set_self hl] at e; cases e; cases q
    · rw [List.getElem?_eq_none (by simpa using hl)] at e; cases e
  · rw [List.getElem?_set_ne (Ne.symm hj)] at e
    exact ⟨⟨s, e, q⟩, hj⟩
theorem ban_set {i : Nat} {d : D} {b : Addr} (h : Ban F (ρ.set i (.d d)) ad b) : Ban F ρ ad b := by
  rcases h with h | ⟨j, o, e⟩
  · exact .inl h
  · exact .inr ⟨j, (own_set o).1, e⟩
theorem StOk.set (h : StOk K dr F ρ σ H ad) {i : Nat} {v : V} {d : D} (r : Rep K (Ban F ρ ad) H v d) : StOk K dr F (ρ.set i (.d d)) (σ.set i (some v)) H ad := by
  refine ⟨by simpa using h.len, fun a b x y => h.inj a b (own_set x).1 (own_set y).1, fun a x => h.nf a (own_set x).1, h.fa, h.dk, h.tb, fun j s e => ?_⟩
  by_cases hj : j = i
  · subst hj
    by_cases hl : j < ρ.length
    · rw [List.getElem?_set_self hl] at e
      cases e
      refine ⟨v, ?_, r.weak fun b => ban_set⟩
      rw [List.getElem?_set_self (by rw [h.len]; exact hl)]
    · rw [List.getElem?_eq_none (by simpa using hl)] at e; cases e
  · rw [List.getElem?_set_ne (Ne.symm hj)] at e
    rw [List.getElem?_set_ne (Ne.symm hj)]
    exact (h.sl j s e).mono (fun v d r => r.weak fun b => ban_set) (fun v d r => r.weak fun b => ban_set) fun _ _ q => q
theorem set_own {ρ : List Sl} {i j : Nat} {d : D} (h : Own ρ j) (hj : j ≠ i) : Own (ρ.set i (.d d)) j := by
  obtain ⟨s, e, q⟩ := h
  exact ⟨s, by rw [List.getElem?_set_ne (Ne.symm hj)]; exact e, q⟩
/-- a new place is banned -/
theorem StOk.newF (s : StOk K dr F ρ σ H ad) {p : Addr} {o : HO} (hp : H p = none) (g : Grow dr H H') (e : H' p = some o) (nt : ∀ xs, o ≠ HO.tup xs) : StOk K dr (fun b => F b ∨ b = p) ρ σ H' ad := by
  have s' := s.grow g
  have hb : ∀ b, Ban (fun b => F b ∨ b = p) ρ ad b → Ban F ρ ad b ∨ H b = none := by
    rintro b ((b | rfl) | b)
    · exact .inl (.inl b)
    · exact .inr hp
    · exact .inl (.inr b)
  have st : Stay (Ban (fun b => F b ∨ b = p) ρ ad) H H' := fun b o eb nb => g.keep b o eb fun z => nb (.inl (.inl (s.dF z)))
  refine ⟨s.len, s.inj, fun i oi z => ?_, fun b z => ?_, fun a l z => ?_, s'.tb, fun i t ei => ?_⟩
  · rcases z with z | z
    · exact s.nf i oi z
    · obtain ⟨x, ex, _⟩ := s.there oi
      rw [z, hp] at ex; cases ex
  · rcases z with z | rfl
    · exact s'.fa b z
    · exact ⟨o, e, nt⟩
  · obtain ⟨f, fl, ne, q⟩ := s'.dk a l z
    exact ⟨.inl f, .inl fl, ne, q⟩
  · refine (s.sl i t ei).mono (fun v d r => (r.ban hb).stay st) (fun v d r => (r.ban hb).stay st) (fun ho o eo => g.keep _ o eo fun z => ?_) (fun _ z => .inl z) (fun e o _ n eo => g.keep e o eo n)
    exact s.nf i ⟨t, ei, ho⟩ (s.dF z)
theorem Grow.updNew {p : Addr} {o : HO} (g : Grow dr H H') (hp : H p = none) : Grow dr H (upd H' p o) := by
  refine ⟨fun b u e nb => ?_, fun a l z q => ?_⟩
  · rw [upd_ne (ne_of_none e hp)]
    exact g.keep b u e nb
  · have q' := g.draw a l z q
    obtain ⟨o1, e1, _⟩ := q.bd
    obtain ⟨o2, e2, _⟩ := q.bdl
    exact q'.imp (fun x e => by rw [upd_ne (ne_of_none e1 hp)]; exact e) fun x e => by rw [upd_ne (ne_of_none e2 hp)]; exact e
/-- some slots are forgotten -/
def wipeS (ρ : List Sl) : List Nat → List Sl
  | [] => ρ
  | v :: vs => (wipeS ρ vs).set v .no
theorem wipeS_length : ∀ vs : List Nat, (wipeS ρ vs).length = ρ.length
  | [] => rfl
  | v :: vs => by unfold wipeS; rw [List.length_set, wipeS_length vs]
theorem wipeS_own : ∀ {vs : List Nat} {j : Nat}, Own (wipeS ρ vs) j → Own ρ j
  | [], _, h => h
  | v :: vs, j, ⟨s, e, q⟩ => by
    unfold wipeS at e
    by_cases hj : v = j
    · subst hj
      by_cases hl : v < (wipeS ρ vs).length
      · rw [List.getElem?_set_self hl] at e; cases e; cases q
      · rw [List.getElem?_eq_none (by simpa using hl)] at e; cases e
    · rw [List.getElem?_set_ne hj] at e
      exact wipeS_own ⟨s, e, q⟩
theorem own_wipeS : ∀ {vs : List Nat} {j : Nat}, j ∉ vs → Own ρ j → Own (wipeS ρ vs) j
  | [], _, _, h => h
  | v :: vs, j, hj, h => by
    obtain ⟨s, e, q⟩ := own_wipeS (vs := vs) (fun z => hj (List.mem_cons_of_mem _ z)) h
    refine ⟨s, ?_, q⟩
    unfold wipeS
    rw [List.getElem?_set_ne fun z => hj (by rw [z]; exact List.mem_cons_self)]
    exact e
theorem StOk.wiped (h : StOk K dr F ρ σ H ad) : ∀ {vs : List Nat}, StOk K dr F (wipeS ρ vs) (wipe σ vs) H ad
  | [] => h
  | v :: vs => by
    have ih := StOk.wiped h (vs := vs)
    have ow : ∀ {j}, Own (wipeS ρ (v :: vs)) j → Own (wipeS ρ vs) j := fun {j} o => by
      obtain ⟨s, e, q⟩ := o
      unfold wipeS at e
      by_cases hj : v = j
      · subst hj
        by_cases hl : v < (wipeS ρ vs).length
        · rw [List.getElem?_set_self hl] at e; cases e; cases q
        · rw [List.getElem?_eq_none (by simpa using hl)] at e; cases e
      · rw [List.getElem?_set_ne hj] at e
        exact ⟨s, e, q⟩
    have bn : ∀ b, Ban F (wipeS ρ (v :: vs)) ad b → Ban F (wipeS ρ vs) ad b := by
      rintro b (b | ⟨i, o, e⟩)
      · exact .inl b
      · exact .inr ⟨i, ow o, e⟩
    refine ⟨by rw [wipe_length, wipeS_length]; exact h.len, fun a b x y => ih.inj a b (ow x) (ow y), fun a x => ih.nf a (ow x), ih.fa, ih.dk, ih.tb, fun j s e => ?_⟩
    unfold wipeS at e
    by_cases hj : v = j
    · subst hj
      by_cases hl : v < (wipeS ρ vs).length
      · rw [List.getElem?_set_self hl] at e; cases e; trivial
      · rw [List.getElem?_eq_none (by simpa using hl)] at e; cases e
    · rw [List.getElem?_set_ne hj] at e
      have : (wipe σ (v :: vs))[j]? = (wipe σ vs)[j]? := by
        show ((wipe σ vs).set v none)[j]? = _
        rw [List.getElem?_set_ne hj]
      rw [this]
      exact (ih.sl j s e).mono (fun v d r => r.weak bn) (fun v d r => r.weak bn) fun _ _ q => q
theorem not_own {ρ : List Sl} {i : Nat} {s : Sl} (h : ρ[i]? = some s) (hs : s.own = false) : ¬ Own ρ i := by
  rintro ⟨t, e, q⟩
  rw [h] at e
  cases e
  rw [hs] at q
  cases q
theorem wipe_set_comm {σ : L2.St} {i : Nat} {x : Option V} : ∀ {vs : List Nat}, i ∈ vs → wipe (σ.set i x) vs = wipe σ vs
  | [], h => by simp at h
  | v :: vs, h => by
    show (wipe (σ.set i x) vs).set v none = (wipe σ vs).set v none
    by_cases hv : i ∈ vs
    · rw [wipe_set_comm hv]
    · have e : i = v := by
        rcases List.mem_cons.mp h with e | e
        · exact e
        · exact absurd e hv
      subst e
      clear h
      have : ∀ {ws : List Nat}, i ∉ ws → wipe (σ.set i x) ws = (wipe σ ws).set i x := by
        intro ws
        induction ws with
        | nil => intro _; rfl
        | cons w ws ih =>
          intro hw
          show (wipe (σ.set i x) ws).set w none = ((wipe σ ws).set w none).set i x
          rw [ih (fun z => hw (List.mem_cons_of_mem _ z)), List.set_comm _ _ (show i ≠ w from fun z => hw (by rw [z]; exact List.mem_cons_self))]
      rw [this hv, List.set_set]
theorem wipe_idem {σ : L2.St} : ∀ (vs ws : List Nat), (∀ i ∈ vs, i ∈ ws) → wipe (wipe σ vs) ws = wipe σ ws
  | [], ws, _ => rfl
  | v :: vs, ws, h => by
    show wipe ((wipe σ vs).set v none) ws = wipe σ ws
    rw [wipe_set_comm (h v List.mem_cons_self)]
    exact wipe_idem vs ws fun i hi => h i (List.mem_cons_of_mem _ hi)
end
/-! ### targets -/
/-- a target's store: the slots behind it; none where the value has not its form -/
def GS (K : PySem.W.Frag) (dr : Drs) (g : TG) (vs : List Nat) (ρ : List Sl) (st : D → Option (List Sl)) : Prop :=
  ∀ (F : Addr → Prop) (ad : Nat → Addr) (σ : L2.St) (H : Hp) (v : V) (d : D) (ρ' : List Sl) (Q : L2.St → Hp → Prop), StOk K dr F ρ σ H ad → Rep K (Ban F ρ ad) H v d → st d = some ρ' →
    (∀ σ', StOk K dr F ρ' σ' H ad → (∀ i, Own ρ i → i ∉ vs → Own ρ' i) → (∀ i, Own ρ' i → Own ρ i) → wipe σ' vs = wipe σ vs → Q σ' H) → g v σ H Q
theorem gs_name {K : PySem.W.Frag} {dr : Drs} {ρ : List Sl} {i : Nat} : GS K dr (gName i) [i] ρ (fun d => some (ρ.set i (.d d))) := by
  intro F ad σ H v d ρ' Q s r e q
  cases e
  exact q _ (s.set r) (fun j o hj => set_own o fun z => hj (by rw [z]; exact List.mem_cons_self)) (fun j o => (own_set o).1) (wipe_set_comm List.mem_cons_self)
theorem gs_name1 {K : PySem.W.Frag} {dr : Drs} (ρ : List Sl) {i : Nat} : GS K dr (gName i) [i] (wipeS ρ [i]) (fun d => some (ρ.set i (.d d))) := by
  have h := gs_name (K := K) (dr := dr) (ρ := wipeS ρ [i]) (i := i)
  have e : (fun d => some ((wipeS ρ [i]).set i (.d d))) = fun d => some (ρ.set i (Sl.d d)) := by
    funext d
    show some ((ρ.set i .no).set i (.d d)) = _
    rw [List.set_set]
  rw [e] at h
  exact h
def setL : List Sl → List Nat → List D → List Sl
  | ρ, i :: is, d :: ds => setL (ρ.set i (.d d)) is ds
  | ρ, _, _ => ρ
def gNames : List Nat → TGs
  | [] => gNil
  | i :: is => gCons (gName i) (gNames is)
theorem own_setL : ∀ {is : List Nat} {ds : List D} {ρ : List Sl} {j : Nat}, Own (setL ρ is ds) j → Own ρ j
  | [], _, _, _, h => h
  | _ :: _, [], _, _, h => h
  | i :: is, d :: ds, ρ, j, h => (own_set (own_setL (is := is) (ds := ds) h)).1
theorem setL_own : ∀ {is : List Nat} {ds : List D} {ρ : List Sl} {j : Nat}, Own ρ j → j ∉ is → Own (setL ρ is ds) j
  | [], _, _, _, h, _ => h
  | _ :: _, [], _, _, h, _ => h
  | i :: is, d :: ds, ρ, j, h, n => setL_own (is := is) (ds := ds) (set_own h fun z => n (by rw [z]; exact List.mem_cons_self)) fun z => n (List.mem_cons_of_mem _ z)
theorem gs_names {K : PySem.W.Frag} {dr : Drs} : ∀ (is : List Nat) (vs : List Nat) (ρ : List Sl), (∀ i ∈ is, i ∈ vs) → ∀ (F : Addr → Prop) (ad : Nat → Addr) (σ : L2.St) (H : Hp) (xs : List V) (ds : List D) (Q : L2.St → Hp → Prop), StOk K dr F ρ σ H ad → Reps K (Ban F ρ ad) H xs ds →
    ds.length = is.length → (∀ σ', StOk K dr F (setL ρ is ds) σ' H ad → wipe σ' vs = wipe σ vs → Q σ' H) → gNames is xs σ H Q
  | [], vs, ρ, hv, F, ad, σ, H, xs, ds, Q, s, r, hl, q => by
    cases ds with
    | nil => cases r; exact ⟨rfl, q σ s rfl⟩
    | cons => cases hl
  | i :: is, vs, ρ, hv, F, ad, σ, H, xs, ds, Q, s, r, hl, q => by
    cases ds with
    | nil => cases hl
    | cons d ds =>
      cases r with
      | @cons v vs' _ _ r rr =>
        refine ⟨v, vs', rfl, ?_⟩
        refine gs_names is vs (ρ.set i (.d d)) (fun j hj => hv j (List.mem_cons_of_mem _ hj)) F ad _ H vs' ds Q (s.set r) (rr.weak fun b => ban_set) (by simpa using hl) fun σ' s' w => q σ' s' ?_
        rw [w, wipe_set_comm (hv i List.mem_cons_self)]
def stT (n : Nat) (is : List Nat) (ρ : List Sl) : D → Option (List Sl)
  | .tuple xs => if xs.length = n then some (setL ρ is xs) else none
  | _ => none
theorem gs_tup {K : PySem.W.Frag} {dr : Drs} {ρ : List Sl} {is : List Nat} : GS K dr (gTup K is.length (gNames is)) is ρ (stT is.length is ρ) := by
  intro F ad σ H v d ρ' Q s r e q
  cases d with
  | tuple xs =>
    unfold stT at e
    by_cases hl : xs.length = is.length
    · simp only [if_pos hl] at e
      cases e
      obtain ⟨a, vs, rfl, h1, rr⟩ := r.tuple
      exact ⟨a, vs, rfl, h1.sq, by rw [rr.length]; exact hl, gs_names is is ρ (fun _ h => h) F ad σ H vs xs Q s rr hl fun σ' s' w => q σ' s' (fun j o hj => setL_own o hj) (fun j o => own_setL o) w⟩
    · simp only [if_neg hl] at e; cases e
  | _ => cases e
/-! ### comprehensions -/
/-- in a comprehension no error may leave -/
abbrev Wd.calm (wd : Wd) : Wd := { wd with W := fun _ _ _ => False }
instance {wd : Wd} [q : Calm wd] : Calm wd.calm := ⟨q.h⟩
theorem Cw.blk {CX : CXT} {k : Nat} {wd : Wd} {N : List Str} {sc : Scope} {X : Cx} (c : Cw CX k wd N sc X) (hF : ∀ outer H s e s', CX outer H s (fun _ _ _ => False) e s' → False) (s0 : Shared) (H0 : Hp) (scope : Scope) (C : Addr) (cl : List (Str × Addr)) (fp : List Addr) :
    Cw CX k wd.calm N (relS scope sc) (X.blk s0 H0 scope (compEnvC scope cl C X.env) fp) :=
  ⟨c.hN, by rw [← c.hs]; rfl, c.nd, fun h => c.calm' h, c.un, c.room', PassesOwn.never, fun pins σ H s e s' I h => hF _ _ _ _ _ h⟩
section
variable {CX : CXT} {k : Nat} {wd : Wd} {N : List Str} {sc : Scope} {X : Cx} {ρ : List Sl} {e a b c tg iter elt : Expr} {ifs : List Expr} {rest : List Expr} {pos p : Pos} {ra rb : R D}
/-- the element's (and the tests') reading in any block -/
def bE (X : Cx) (scope : Scope) (elt : Expr) : TE := fun σ H Q => ∀ s0 H0 C cl fp, BE (X.blk s0 H0 scope (compEnvC scope cl C X.env) fp) elt σ H Q
def bT (X : Cx) (scope : Scope) : List Expr → TT
  | [] => tYes
  | t :: _ => fun σ H Q => ∀ s0 H0 C cl fp, BT (X.blk s0 H0 scope (compEnvC scope cl C X.env) fp) t σ H Q
/-- what the element and the tests compute -/
structure LcEl (X : Cx) (wd : Wd) (scope : Scope) (elt : Expr) (ifs : List Expr) (st : D → Option (List Sl)) (cf : D → R Bool) (f : D → R D) : Prop where
  no : ∀ d, st d = none → cf d = bad
  el : ∀ d ρ', st d = some ρ' → ∀ s0 H0 C cl fp, Ev (X.blk s0 H0 scope (compEnvC scope cl C X.env) fp) wd.calm ρ' elt (f d)
  ts : ∀ d ρ', st d = some ρ' → match ifs with
    | [] => cf d = R.ret true
    | t :: _ => ∀ s0 H0 C cl fp, EvT (X.blk s0 H0 scope (compEnvC scope cl C X.env) fp) wd.calm ρ' t (cf d)
theorem xp_false {X : Cx} {wd : Wd} {F : Addr → Prop} {ad : Nat → Addr} {H : Hp} {α : Type} {Q : α → Prop} {r : R α} (q : r.wp Q fun _ _ => False) : r.wp Q (XP X wd F ρ ad H) := wp_mono (fun _ z => z) (fun _ _ z => z.elim) q
theorem wp_nx' {α : Type} {Q : α → Prop} {E E' : Nat → D → Prop} : ∀ {r : R α}, wp Q E (nx r) → wp Q E' (nx r)
  | .ret a, h => h
  | .exc c x, h => h
  | .bad, h => h
  | .pick n k, h => fun i a b => wp_nx' (h i a b)
theorem lc_read {scope : Scope} {g : TG} {vs : List Nat} {st : D → Option (List Sl)} {cf : D → R Bool} {f : D → R D} {r : R (List D)} (hi : EvJ X wd ρ tg iter r) (hgs : GS X.K wd.dr g vs (wipeS ρ vs) st) (hno : ∀ i ∈ vs, ¬ Own ρ i) (hel : LcEl X wd scope elt ifs st cf f)
    (F : Addr → Prop) (ad : Nat → Addr) (σ : L2.St) (H : Hp) (Q : VK) (s : StOk X.K wd.dr F ρ σ H ad)
    (q : (r.bind fun ds => compR cf f ds []).wp (fun ds => ∀ a vs H', Grow wd.dr H H' → H a = none → H' a = some (.lst vs) → Reps X.K (fun b => Ban F ρ ad b ∨ b = a) H' vs ds → Q (.ref a) H') (XP X wd F ρ ad H)) :
    tLc (BI X tg iter) g (bT X scope ifs) (bE X scope elt) vs σ H Q := by
  rw [wp_bind] at q
  refine hi F ad σ H _ s (wp_mono (fun ds q J H1 g1 hJ => ?_) (fun _ _ z => z) q)
  intro Dn hDn
  have hDn0 := free_grow s g1 hDn
  have s1 := s.grow g1
  -- the new list's place is banned besides
  generalize hF' : (fun b => F b ∨ b = Dn) = F'
  have FF : ∀ b, Ban F ρ ad b → Ban F' ρ ad b := by
    rintro b (z | z)
    · subst hF'; exact .inl (.inl z)
    · exact .inr z
  have FD : Ban F' ρ ad Dn := by subst hF'; exact .inl (.inr rfl)
  have FN : ∀ b, Ban F' ρ ad b → Ban F ρ ad b ∨ H1 b = none := by
    subst hF'
    rintro b ((z | rfl) | z)
    · exact .inl (.inl z)
    · exact .inr hDn
    · exact .inl (.inr z)
  have sF : ∀ {H' : Hp} {xs : List V}, Grow wd.dr H1 H' → H' Dn = some (.lst xs) → StOk X.K wd.dr F' ρ σ H' ad := fun g e => by subst hF'; exact s1.newF hDn g e fun _ z => nomatch z
  obtain ⟨Vd, v0, vS, vG, vY, vE⟩ := hJ (Ban F' ρ ad) FN FF
  have gD : ∀ {o}, Grow wd.dr H1 (upd H1 Dn o) := fun {o} => Grow.same (same_upd hDn)
  -- the invariant
  generalize hIn : (fun (i : Nat) (H' : Hp) => Grow wd.dr H1 H' ∧ Vd H' ∧ ∃ acc vsD, H' Dn = some (.lst vsD) ∧ Reps X.K (Ban F' ρ ad) H' vsD acc ∧
      (compR cf f (ds.drop i) acc).wp (fun ds => ∀ a vs H', Grow wd.dr H H' → H a = none → H' a = some (.lst vs) → Reps X.K (fun b => Ban F ρ ad b ∨ b = a) H' vs ds → Q (.ref a) H') (XP X wd F ρ ad H)) = In
  refine ⟨fun i m H' => m = ds.length - i ∧ i ≤ ds.length ∧ In i H', ⟨ds.length, rfl, Nat.zero_le _, by subst hIn; exact ⟨gD, vS _ _ v0 gD, [], [], upd_same, .nil, q⟩⟩, ?_⟩
  rintro i m H' ⟨rfl, hi', hI⟩
  have hI' := hI
  rw [← hIn] at hI'
  obtain ⟨g2, vd, acc, vsD, eD, rD, q⟩ := hI'
  by_cases hlt : i < ds.length
  · refine .inr ⟨vG _ _ vd hlt, In (i + 1), fun H'' z => ⟨ds.length - (i + 1), by omega, rfl, hlt, z⟩, ?_⟩
    intro x H'' y
    obtain ⟨sm, rx⟩ := vY _ _ _ _ ds[i] vd y (List.getElem?_eq_getElem hlt)
    have g3 : Grow wd.dr H1 H'' := g2.trans (Grow.same sm)
    have eD3 := sm _ _ eD
    have s3r : StOk X.K wd.dr F' ρ σ H'' ad := sF g3 eD3
    have s3 : StOk X.K wd.dr F' (wipeS ρ vs) (wipe σ vs) H'' ad := s3r.wiped
    have wb : ∀ b, Ban F' (wipeS ρ vs) ad b → Ban F' ρ ad b := by
      rintro b (b | ⟨i, o, e⟩)
      · exact .inl b
      · exact .inr ⟨i, wipeS_own o, e⟩
    rw [List.drop_eq_getElem_cons hlt] at q
    have vd3 := vS _ _ vd (Grow.same sm)
    have rD3 := rD.stay (same_stay sm)
    unfold compR at q
    rw [wp_bind] at q
    cases est : st ds[i] with
    | none => rw [hel.no _ est] at q; exact q.elim
    | some ρ' =>
      refine hgs F' ad _ H'' x ds[i] ρ' _ s3 (rx.weak wb) est fun σ' s' ho2 ho w => ⟨by rw [w, wipe_idem vs vs fun _ h => h], ?_⟩
      have hB : ∀ b, Ban F' ρ ad b → Ban F' ρ' ad b := by
        rintro b (b | ⟨j, o, e⟩)
        · exact .inl b
        · have hj : j ∉ vs := fun z => hno j z o
          exact .inr ⟨j, ho2 j (own_wipeS hj o) hj, e⟩
      -- behind the tests
      have key : ∀ (b : Bool) (H3 : Hp), Grow wd.dr H'' H3 → (if b = true then (nx (f ds[i])).bind (fun y => if acc.length < sizeLine then compR cf f (ds.drop (i + 1)) (acc ++ [y]) else bad) else compR cf f (ds.drop (i + 1)) acc).wp (fun ds => ∀ a vs H', Grow wd.dr H H' → H a = none → H' a = some (.lst vs) → Reps X.K (fun b => Ban F ρ ad b ∨ b = a) H' vs ds → Q (.ref a) H') (XP X wd F ρ ad H) →
          (if b = true then bE X scope elt σ' H3 fun y H4 => ∃ acc, H4 Dn = some (.lst acc) ∧ acc.length < sizeLine ∧ In (i + 1) (upd H4 Dn (.lst (acc ++ [y]))) else In (i + 1) H3) := by
        intro b H3 g4 q
        have dne : ¬ Has wd.dr Dn := fun z => by
          obtain ⟨o, e, _⟩ := s1.banned (s1.drF z)
          rw [hDn] at e; cases e
        have eD4 := g4.keep _ _ eD3 dne
        have rD4 := rD3.stay (s3r.stays g4)
        cases b with
        | false => subst hIn; exact iteF ⟨g3.trans g4, vS _ _ vd3 g4, acc, vsD, eD4, rD4, q⟩
        | true =>
          refine iteT fun s0 H0 C cl fp => ?_
          have q : ((nx (f ds[i])).bind (fun y => if acc.length < sizeLine then compR cf f (ds.drop (i + 1)) (acc ++ [y]) else bad)).wp _ _ := q
          rw [wp_bind] at q
          refine hel.el ds[i] ρ' est s0 H0 C cl fp F' ad σ' H3 _ (s'.grow g4) (xp_false (wp_nx (E := fun _ _ => False) ?_))
          refine wp_nx' (E := XP X wd F ρ ad H) (wp_mono (fun y q v H4 g5 rv => ?_) (fun _ _ z => z) q)
          obtain ⟨hz, q⟩ := wp_ite q
          have eD5 := g5.keep _ _ eD4 dne
          have rD5 := rD4.stay ((s3r.grow g4).stays g5)
          have rv' : Rep X.K (Ban F' ρ ad) H4 v y := rv.weak hB
          have g6 := (g3.trans (g4.trans g5)).updNew (o := .lst (vsD ++ [v])) hDn
          refine ⟨vsD, eD5, by rw [rD5.length]; exact hz, ?_⟩
          subst hIn
          refine ⟨g6, vS _ _ v0 g6, acc ++ [y], vsD ++ [v], upd_same, (rD5.append (.cons rv' .nil)).stay fun b o eb nb => ?_, q⟩
          rw [upd_ne fun z => nb (by rw [z]; exact FD)]
          exact eb
      cases ifs with
      | nil =>
        have et := hel.ts ds[i] ρ' est
        simp only at et
        rw [et] at q
        exact key true H'' (Grow.refl _ _) q
      | cons t ts =>
        intro s0 H0 C cl fp
        refine hel.ts ds[i] ρ' est s0 H0 C cl fp F' ad σ' H'' _ s' (xp_false (wp_nx (E := fun _ _ => False) (wp_nx' (E := XP X wd F ρ ad H) (wp_mono (fun b q H3 g4 => key b H3 g4 q) (fun _ _ z => z) q))))
  · have e : i = ds.length := by omega
    subst e
    rw [List.drop_length] at q
    exact .inl ⟨vE _ vd, q _ _ _ (g1.trans g2) hDn0 eD (rD.weak fun b z => by
      rcases z with z | rfl
      · exact FF _ z
      · exact FD)⟩
theorem bE_pe {scope : Scope} (s0 : Shared) (H0 : Hp) (C : Addr) (cl : List (Str × Addr)) (fp : List Addr) : PE (X.blk s0 H0 scope (compEnvC scope cl C X.env) fp) elt (bE X scope elt) := ⟨fun pins s σ H Q I h => h s0 H0 C cl fp pins s I⟩
theorem bT_pts {scope : Scope} (hl : ifs.length ≤ 1) (s0 : Shared) (H0 : Hp) (C : Addr) (cl : List (Str × Addr)) (fp : List Addr) : PTs (X.blk s0 H0 scope (compEnvC scope cl C X.env) fp) ifs (bT X scope ifs) := by
  match ifs, hl with
  | [], _ => exact pts_nil
  | [t], _ => exact pts_one ⟨fun pins s σ H Q I h => h s0 H0 C cl fp pins s I⟩
/-- a target's rule in every block -/
def BlkG (X : Cx) (scope : Scope) (tg : Expr) (g : TG) : Prop := ∀ (s : Shared) (H : Hp) (C : Addr) (cl : List (Str × Addr)) (fp : List Addr), PG (X.blk s H scope (compEnvC scope cl C X.env) fp) tg g
def locB (sc : Scope) (x : Str) : Bool := match sc.names.lookup x with | some .local => true | _ => false
theorem locB_eq {sc : Scope} {x : Str} (h : locB sc x = true) : sc.names.lookup x = some .local := by
  unfold locB at h
  split at h
  · assumption
  · cases h
/-- a name that a comprehension stores: its own, local or a cell -/
def lcB (sc : Scope) (x : Str) : Bool := match sc.names.lookup x with | some .local => true | some .cell => true | _ => false
theorem lcB_eq {sc : Scope} {x : Str} (h : lcB sc x = true) : sc.names.lookup x = some .local ∨ sc.names.lookup x = some .cell := by
  unfold lcB at h
  split at h
  · exact .inl (by assumption)
  · exact .inr (by assumption)
  · cases h
/-- a comprehension's own name -/
def tgB (scope sc : Scope) (x : Str) : Bool := lcB (relS scope sc) x && ((scope.names.lookup x == some .cell) || locB (relS scope sc) x)
theorem blkg_name (c : Cw CX k wd N sc X) {scope : Scope} {i : Nat} {x : Str} (hN : N[i]? = some x) (hl : tgB scope sc x = true) : BlkG X scope (.Name x p) (gName i) := fun s H C cl fp => by
  have hs : (X.blk s H scope (compEnvC scope cl C X.env) fp).env.scope = relS scope sc := by rw [← c.hs]; rfl
  unfold tgB at hl
  rw [Bool.and_eq_true, Bool.or_eq_true] at hl
  refine pg_name (by rw [show (X.blk s H scope (compEnvC scope cl C X.env) fp).N = N from c.hN]; exact c.nd) (by rw [show (X.blk s H scope (compEnvC scope cl C X.env) fp).N = N from c.hN]; exact hN) ?_ ?_
  · unfold L2.Loc
    rw [hs]
    exact lcB_eq hl.1
  · rcases hl.2 with h | h
    · exact .inl h
    · refine .inr ?_
      rw [hs]
      exact locB_eq h
theorem evl_compG [Calm wd] (c : Cw CX k wd N sc X) {scope : Scope} {own : List (Str × Nat)} {g : TG} {st : D → Option (List Sl)} {cf : D → R Bool} {f : D → R D} {r : R (List D)} (hok : blkC N sc scope own = true) (hg : BlkG X scope tg g) (hgs : GS X.K wd.dr g (own.map (·.2)) (wipeS ρ (own.map (·.2))) st) (hno : ∀ i ∈ own.map (·.2), ¬ Own ρ i)
    (hi : EvJ X wd ρ tg iter r) (hl : ifs.length ≤ 1) (hel : LcEl X wd scope elt ifs st cf f) (hs : ∀ x, foldedSetIterable iter X.env x = pure x := by exact fun _ => rfl) : EvL X wd ρ (.ListComp elt [⟨tg, iter, ifs, 0⟩] scope pos) (r.bind fun ds => compR cf f ds []) := fun F ad σ H Q s q =>
  be (pe_lc (own := own) c.calm (by rw [c.hN]; exact c.nd) pi_b (by rw [c.hN, c.hs]; exact blkOk_by hok) hg (bT_pts hl) bE_pe hs) (lc_read hi hgs hno hel F ad σ H Q s q)
/-- [elt for x in iter] -/
theorem evl_comp [Calm wd] (c : Cw CX k wd N sc X) {scope : Scope} {i : Nat} {x : Str} {f : D → R D} {r : R (List D)} (hok : blkC N sc scope [(x, i)] = true) (hN : N[i]? = some x) (hx : tgB scope sc x = true) {sl : Sl} (hno : ρ[i]? = some sl) (hsl : sl.own = false) (hi : EvJ X wd ρ (.Name x p) iter r)
    (hel : ∀ d s0 H0 C cl fp, Ev (X.blk s0 H0 scope (compEnvC scope cl C X.env) fp) wd.calm (ρ.set i (.d d)) elt (f d)) (hs : ∀ x, foldedSetIterable iter X.env x = pure x := by exact fun _ => rfl) :
    EvL X wd ρ (.ListComp elt [⟨.Name x p, iter, [], 0⟩] scope pos) (r.bind fun ds => compR (fun _ => R.ret true) f ds []) :=
  evl_compG c (own := [(x, i)]) hok (blkg_name c hN hx) (gs_name1 ρ) (fun j hj => by simp at hj; subst hj; exact not_own hno hsl) hi (Nat.zero_le _) ⟨fun d e => (by cases e), fun d ρ' e => (by cases e; exact hel d), fun d ρ' e => rfl⟩ hs
/-- [elt for x in iter if t] -/
theorem evl_compif [Calm wd] (c : Cw CX k wd N sc X) {scope : Scope} {i : Nat} {x : Str} {t : Expr} {cf : D → R Bool} {f : D → R D} {r : R (List D)} (hok : blkC N sc scope [(x, i)] = true) (hN : N[i]? = some x) (hx : tgB scope sc x = true) {sl : Sl} (hno : ρ[i]? = some sl) (hsl : sl.own = false) (hi : EvJ X wd ρ (.Name x p) iter r)
    (ht : ∀ d s0 H0 C cl fp, EvT (X.blk s0 H0 scope (compEnvC scope cl C X.env) fp) wd.calm (ρ.set i (.d d)) t (cf d))
    (hel : ∀ d s0 H0 C cl fp, Ev (X.blk s0 H0 scope (compEnvC scope cl C X.env) fp) wd.calm (ρ.set i (.d d)) elt (f d)) (hs : ∀ x, foldedSetIterable iter X.env x = pure x := by exact fun _ => rfl) :
    EvL X wd ρ (.ListComp elt [⟨.Name x p, iter, [t], 0⟩] scope pos) (r.bind fun ds => compR cf f ds []) :=
  evl_compG c (own := [(x, i)]) hok (blkg_name c hN hx) (gs_name1 ρ) (fun j hj => by simp at hj; subst hj; exact not_own hno hsl) hi (Nat.le_refl _) ⟨fun d e => (by cases e), fun d ρ' e => (by cases e; exact hel d), fun d ρ' e => by cases e; exact ht d⟩ hs
/-! ### calls of defs -/
/-- a def that computes m of its arguments, and raises nothing -/
def spP (K : PySem.W.Frag) (n : Nat) (m : List D → R D) : Sp := fun vs H Q _ => ∃ (B : Addr → Prop) (ds : List D), Fo K H B ∧ ds.length = n ∧ Reps K B H vs ds ∧
  (m ds).wp (fun d => ∀ v H', Same H H' → Rep K B H' v d → Q v H') fun _ _ => False
/-- the same, the first argument the draws -/
def spD (K : PySem.W.Frag) (n : Nat) (m : List D → R D) : Sp := fun vs H Q _ => ∃ (B : Addr → Prop) (a l : Addr) (vs' : List V) (ds : List D), Fo K H B ∧ vs = .ref a :: vs' ∧ B a ∧ B l ∧ l ≠ a ∧ DrAt H a l ∧ ds.length = n ∧ Reps K B H vs' ds ∧
  (m ds).wp (fun d => ∀ v H', Grow (some (a, l)) H H' → Rep K B H' v d → Q v H') fun _ _ => False
/-- where errors are wanted by nobody -/
structure NoW (wd : Wd) : Prop where
  w : wd.W = fun _ _ _ => False
  x : ∀ c, (wd.xc c).2 = none
theorem NoW.xp {X : Cx} {wd : Wd} (h : NoW wd) {F : Addr → Prop} {ρ : List Sl} {ad : Nat → Addr} {H : Hp} {c : Nat} {x : D} (q : XP X wd F ρ ad H c x) : False := by
  have := q (wd.xc c).1 none H (Grow.refl _ _) ⟨rfl, by rw [h.x c]⟩
  rw [h.w] at this
  exact this
/-- a def of the text, as its callers see it -/
structure Dn (X : Cx) (CX : CXT) (j : Nat) (x : Str) (sp : Sp) : Prop where
  ok : ∃ (f : Addr) (fd : FuncData) (ps : List Str), X.mg x = some (.ref f) ∧ PySem.W.keepIn X.K (.ref f) = true ∧ Binds X.K fd ps [] ∧ FnOk X.prog X.w X.K X.mg X.base CX j f fd ps sp
theorem ev_call [Calm wd] (c : Cw CX k wd N sc X) (W : NoW wd) {x : Str} {j n : Nat} {m : List D → R D} {es : List Expr} {rs : R (List D)} (G : Dn X CX j x (spP X.K n m)) (hj : j ≤ k) (hg : glB sc x = true) (ha : EvA X wd ρ (e :: es) rs) (hm : ∀ ds, ds.length ≠ n → m ds = bad)
    (he : starEach (e :: es) X.env = (false, eval e X.env) :: starEach es X.env := by rfl) (hpl : (backTo pos (starEach es X.env)).any (·.1) = false := by rfl) : Ev X wd ρ (.Call (.Name x p) (e :: es) [] pos) (rs.bind m) := fun F ad σ H Q s q => by
  obtain ⟨f, fd, ps, h1, h2, h3, h4⟩ := G.ok
  refine be (pe_call h4 (c.room.mono hj) (c.gl hg).1 h1 h2 h3 .nil c.ps pa_b (c.gl hg).2.1 he hpl) ?_
  rw [wp_bind] at q
  refine ha F ad σ H _ s (wp_mono (fun ds q vs H1 g1 r1 => ?_) (fun _ _ z => z) q)
  have s1 := s.grow g1
  by_cases hl : ds.length = n
  · exact ⟨Ban F ρ ad, ds, s1.fo, hl, by rw [List.append_nil]; exact r1, wp_mono (fun d z v H' sm r => z v H' (g1.trans (Grow.same sm)) r) (fun _ _ z => W.xp z) q⟩
  · rw [hm ds hl] at q; exact q.elim
/-- a call with the draws ahead -/
theorem ev_callD [Calm wd] (c : Cw CX k wd N sc X) (W : NoW wd) {x y : Str} {i j n : Nat} {py : Pos} {m : List D → R D} {es : List Expr} {rs : R (List D)} (G : Dn X CX j x (spD X.K n m)) (hj : j ≤ k) (hg : glB sc x = true) (hv : visB sc y = true) (hN : N[i]? = some y) (hρ : ρ[i]? = some .w) (ha : EvA X wd ρ es rs) (hm : ∀ ds, ds.length ≠ n → m ds = bad)
    (hpl : (backTo pos (starEach es X.env)).any (·.1) = false := by rfl) : Ev X wd ρ (.Call (.Name x p) (.Name y py :: es) [] pos) (rs.bind m) := fun F ad σ H Q s q => by
  obtain ⟨f, fd, ps, h1, h2, h3, h4⟩ := G.ok
  obtain ⟨v1, v2, v3⟩ := c.vis hv
  refine be (pe_call h4 (c.room.mono hj) (c.gl hg).1 h1 h2 h3 .nil c.ps (pa_cons (pe_var (i := i) (by rw [c.hN]; exact hN) v1 v2 v3) pa_b rfl) (c.gl hg).2.1 rfl hpl) ?_
  obtain ⟨dr, l, hd, ev⟩ := s.sl i _ hρ
  refine ⟨_, ev, ?_⟩
  rw [wp_bind] at q
  refine ha F ad σ H _ s (wp_mono (fun ds q vs H1 g1 r1 => ?_) (fun _ _ z => z) q)
  have s1 := s.grow g1
  obtain ⟨fd', fl, ne, da⟩ := s1.dk dr l hd
  by_cases hl : ds.length = n
  · exact ⟨Ban F ρ ad, dr, l, vs, ds, s1.fo, by rw [List.append_nil], .inl fd', .inl fl, ne, da, hl, r1, wp_mono (fun d z v H' g r => z v H' (g1.trans (by rw [hd]; exact g)) r) (fun _ _ z => W.xp z) q⟩
  · rw [hm ds hl] at q; exact q.elim
end
end Pu
/-! Ps: blocks that compute how they end. -/
namespace Pu
open PySem PySem.Spec PyProof.Rows L2 R
/-! ### from state to state -/
structure Adv (wd : Wd) (ρ : List Sl) (ad : Nat → Addr) (H : Hp) (ρ' : List Sl) (ad' : Nat → Addr) (H' : Hp) : Prop where
  keep : ∀ b o, H b = some o → ¬ Has wd.dr b → ¬ OwnA ρ ad b → H' b = some o ∧ ¬ OwnA ρ' ad' b
  draw : ∀ a l, wd.dr = some (a, l) → DrAt H a l → DrAt H' a l
  pin : ∀ i, wd.pin i = true → ad' i = ad i
section
variable {wd : Wd} {K : PySem.W.Frag} {F : Addr → Prop} {ρ ρ' ρ1 : List Sl} {σ σ' : L2.St} {H H' H1 : Hp} {ad ad' ad1 : Nat → Addr}
theorem Adv.refl : Adv wd ρ ad H ρ ad H := ⟨fun _ _ h _ n => ⟨h, n⟩, fun _ _ _ h => h, fun _ _ => rfl⟩
theorem Adv.trans (a : Adv wd ρ ad H ρ1 ad1 H1) (b : Adv wd ρ1 ad1 H1 ρ' ad' H') : Adv wd ρ ad H ρ' ad' H' :=
  ⟨fun x o h n m => let ⟨h1, m1⟩ := a.keep x o h n m; b.keep x o h1 n m1, fun x l e h => b.draw x l e (a.draw x l e h), fun i h => (b.pin i h).trans (a.pin i h)⟩
theorem Adv.grow (g : Grow wd.dr H H') : Adv wd ρ ad H ρ ad H' := ⟨fun b o h n m => ⟨g.keep b o h n, m⟩, g.draw, fun _ _ => rfl⟩
/-- fewer are owned -/
theorem Adv.less (h : ∀ i, Own ρ' i → Own ρ i) : Adv wd ρ ad H ρ' ad H := ⟨fun b o e n m => ⟨e, fun ⟨i, o, e⟩ => m ⟨i, h i o, e⟩⟩, fun _ _ _ h => h, fun _ _ => rfl⟩
theorem Adv.set {i : Nat} {d : D} : Adv wd ρ ad H (ρ.set i (.d d)) ad H := .less fun _ o => (own_set o).1
theorem Adv.stay (a : Adv wd ρ ad H ρ' ad' H') (s : StOk K wd.dr F ρ σ H ad) : Stay (Ban F ρ ad) H H' := fun b o e nb => (a.keep b o e (fun z => nb (s.drF z)) fun z => nb (.inr z)).1
end
/-! ### what is handed back -/
def keyD : Key → D
  | .inl i => .int i
  | .inr x => .str x
/-- an object of a def's own, as data (no data of the language is such a dict) -/
def encK (kvs : List (Key × D)) : D := .dict (kvs.map fun p => (keyD p.1, p.2))
def encT (kvs : List (List Key × D)) : D := .dict ((.none, .none) :: kvs.map fun p => (.tuple (p.1.map keyD), p.2))
def encC : Ct → D
  | .l xs => .dict [(.bool true, .list xs)]
  | .k kvs => encK kvs
  | .t kvs => encT kvs
inductive RetL (K : PySem.W.Frag) (B : Addr → Prop) (H : Hp) : List V → List D → List Addr → Prop
  | nil : RetL K B H [] [] []
  | d {v : V} {d : D} {vs : List V} {ds : List D} {as : List Addr} : Rep K B H v d → RetL K B H vs ds as → RetL K B H (v :: vs) (d :: ds) as
  | o {a : Addr} {c : Ct} {vs : List V} {ds : List D} {as : List Addr} : HasCt K B H a c → RetL K B H vs ds as → RetL K B H (.ref a :: vs) (encC c :: ds) (a :: as)
inductive RetV (K : PySem.W.Frag) (B : Addr → Prop) (H : Hp) : V → D → List Addr → Prop
  | one {a : Addr} {c : Ct} : HasCt K B H a c → RetV K B H (.ref a) (encC c) [a]
  | tup {p : Addr} {vs : List V} {ds : List D} {as : List Addr} : H p = some (.tup vs) → RetL K B H vs ds as → RetV K B H (.ref p) (.tuple ds) as
/-- data, or new objects that nobody else has -/
def RetO (own : Bool) (dr : Drs) (K : PySem.W.Frag) (nw : Addr → Prop) (B : Addr → Prop) (H : Hp) (v : V) (d : D) : Prop := Rep K B H v d ∨ (own = true ∧ ∃ as : List Addr, as.Nodup ∧ (∀ a ∈ as, ¬ B a ∧ ¬ Has dr a ∧ nw a) ∧ RetV K (fun b => B b ∨ b ∈ as) H v d as)
theorem RetO.rep {own : Bool} {dr : Drs} {K : PySem.W.Frag} {nw B : Addr → Prop} {H : Hp} {v : V} {d : D} (h : RetO own dr K nw B H v d) (ho : own = false) : Rep K B H v d := by
  rcases h with h | ⟨h, _⟩
  · exact h
  · rw [ho] at h; cases h
theorem HasCt.weak {K : PySem.W.Frag} {B B' : Addr → Prop} {H : Hp} {a : Addr} {c : Ct} (h : HasCt K B H a c) (hb : ∀ b, B' b → B b) : HasCt K B' H a c := h.mono (fun _ _ r => r.weak hb) (fun _ _ r => r.weak hb) fun _ q => q
theorem RetL.weak {K : PySem.W.Frag} {B B' : Addr → Prop} {H : Hp} {vs : List V} {ds : List D} {as : List Addr} (h : RetL K B H vs ds as) (hb : ∀ b, B' b → B b) : RetL K B' H vs ds as := by
  induction h with
  | nil => exact .nil
  | d r _ ih => exact .d (r.weak hb) ih
  | o c _ ih => exact .o (c.weak hb) ih
theorem RetV.weak {K : PySem.W.Frag} {B B' : Addr → Prop} {H : Hp} {v : V} {d : D} {as : List Addr} (h : RetV K B H v d as) (hb : ∀ b, B' b → B b) : RetV K B' H v d as := by
  cases h with
  | one c => exact .one (c.weak hb)
  | tup e l => exact .tup e (l.weak hb)
theorem RetO.weak {own : Bool} {dr : Drs} {K : PySem.W.Frag} {nw B B' : Addr → Prop} {H : Hp} {v : V} {d : D} (h : RetO own dr K nw B H v d) (hb : ∀ b, B' b → B b) : RetO own dr K nw B' H v d :=
  h.imp (fun r => r.weak hb) fun ⟨ho, as, h1, h2, h3⟩ => ⟨ho, as, h1, fun a ha => ⟨fun z => (h2 a ha).1 (hb a z), (h2 a ha).2⟩, h3.weak fun b z => z.imp (hb b) id⟩
theorem RetO.mono {own : Bool} {dr : Drs} {K : PySem.W.Frag} {nw nw' B : Addr → Prop} {H : Hp} {v : V} {d : D} (h : RetO own dr K nw B H v d) (k : ∀ a, ¬ Has dr a → nw a → nw' a) : RetO own dr K nw' B H v d :=
  h.imp id fun ⟨ho, as, h1, h2, h3⟩ => ⟨ho, as, h1, fun a ha => ⟨(h2 a ha).1, (h2 a ha).2.1, k a (h2 a ha).2.1 (h2 a ha).2.2⟩, h3⟩
/-! ### judgements of blocks -/
section
variable (X : Cx) (wd : Wd) {S B T : Type} (eS : S → List Sl) (eB : B → List Sl) (eT : T → List Sl)
def OutOk (F : Addr → Prop) (ρ : List Sl) (ad : Nat → Addr) (H : Hp) (Dn : Ends) : Out S B T → Prop
  | .nx s => ∀ ad' σ' H', Adv wd ρ ad H (eS s) ad' H' → StOk X.K wd.dr F (eS s) σ' H' ad' → Dn.nx σ' H'
  | .bk s => ∀ ad' σ' H', Adv wd ρ ad H (eB s) ad' H' → StOk X.K wd.dr F (eB s) σ' H' ad' → Dn.bk σ' H'
  | .ct s => ∀ ad' σ' H', Adv wd ρ ad H (eB s) ad' H' → StOk X.K wd.dr F (eB s) σ' H' ad' → Dn.ct σ' H'
  | .rt d t => ∀ v ad' ρ' σ' H', Adv wd ρ ad H ρ' ad' H' → StOk X.K wd.dr F ρ' σ' H' ad' → (∀ (i : Nat) (s : Sl), (eT t)[i]? = some s → s.own = true → ρ'[i]? = some s) → RetO wd.own wd.dr X.K (fun a => OwnA ρ ad a ∨ H a = none) (Ban F ρ' ad') H' v d → Dn.rt v H'
def XPs (F : Addr → Prop) (ρ : List Sl) (ad : Nat → Addr) (H : Hp) (c : Nat) (x : D) : Prop := ∀ C dx ad' ρ' σ' H', Adv wd ρ ad H ρ' ad' H' → StOk X.K wd.dr F ρ' σ' H' ad' → XRep wd X.K (Ban F ρ' ad') H' c x C dx → wd.W C dx H'
def Run (ρ : List Sl) (ss : List Stmt) (o : R (Out S B T)) : Prop := ∀ (F : Addr → Prop) (ad : Nat → Addr) (σ : L2.St) (H : Hp) (Dn : Ends), StOk X.K wd.dr F ρ σ H ad →
  o.wp (OutOk X wd eS eB eT F ρ ad H Dn) (XPs X wd F ρ ad H) → BSs X ss Dn σ H
end
section
variable {X : Cx} {wd : Wd} {S S' B T : Type} {eS : S → List Sl} {eS' : S' → List Sl} {eB : B → List Sl} {eT : T → List Sl} {F : Addr → Prop} {ρ ρ1 : List Sl} {ad ad1 : Nat → Addr} {H H1 : Hp} {Dn : Ends} {σ : L2.St}
theorem OutOk.adv (a : Adv wd ρ ad H ρ1 ad1 H1) : ∀ {o : Out S B T}, OutOk X wd eS eB eT F ρ ad H Dn o → OutOk X wd eS eB eT F ρ1 ad1 H1 Dn o
  | .nx _, h => fun ad' σ' H' b => h ad' σ' H' (a.trans b)
  | .bk _, h => fun ad' σ' H' b => h ad' σ' H' (a.trans b)
  | .ct _, h => fun ad' σ' H' b => h ad' σ' H' (a.trans b)
  | .rt _ _, h => fun v ad' ρ' σ' H' b s c r => h v ad' ρ' σ' H' (a.trans b) s c (r.mono fun x n z => by
    by_cases hx : OwnA ρ ad x
    · exact .inl hx
    · refine .inr ?_
      cases e : H x with
      | none => rfl
      | some o =>
        obtain ⟨k1, k2⟩ := a.keep x o e n hx
        rcases z with z | z
        · exact absurd z k2
        · rw [k1] at z; cases z)
theorem XPs.adv (a : Adv wd ρ ad H ρ1 ad1 H1) {c : Nat} {x : D} (h : XPs X wd F ρ ad H c x) : XPs X wd F ρ1 ad1 H1 c x := fun C dx ad' ρ' σ' H' b => h C dx ad' ρ' σ' H' (a.trans b)
theorem XPs.xp (s : StOk X.K wd.dr F ρ σ H ad) {c : Nat} {x : D} (h : XPs X wd F ρ ad H c x) : XP X wd F ρ ad H c x := fun C dx H' g r => h C dx ad ρ σ H' (.grow g) (s.grow g) r
theorem wp_adv (a : Adv wd ρ ad H ρ1 ad1 H1) {r : R (Out S B T)} (q : r.wp (OutOk X wd eS eB eT F ρ ad H Dn) (XPs X wd F ρ ad H)) : r.wp (OutOk X wd eS eB eT F ρ1 ad1 H1 Dn) (XPs X wd F ρ1 ad1 H1) :=
  wp_mono (fun _ => OutOk.adv a) (fun _ _ => XPs.adv a) q
end
/-- the context of a def's own body -/
structure Cd (CX : CXT) (k : Nat) (wd : Wd) (N : List Str) (sc : Scope) (X : Cx) : Prop extends Cw CX k wd N sc X where
  fn : ∀ x, X.fn x = true
  kind : sc.kind = .function
  stk : X.stack = X.env :: X.outer
  frm : X.env.frame = some X.env.locals
section
variable {CX : CXT} {k : Nat} {wd : Wd} {N : List Str} {sc : Scope} {X : Cx} {S S' S1 B B' T : Type} {eS : S → List Sl} {eS1 : S1 → List Sl} {eS' : S' → List Sl} {eB : B → List Sl} {eB' : B' → List Sl} {eT : T → List Sl} {ρ ρ1 : List Sl} {e a b : Expr} {rest A1 B1 : List Stmt} {pos p : Pos} {ra rb : R D}
theorem Cd.loc (c : Cd CX k wd N sc X) {x : Str} (h : lcB sc x = true) : L2.Loc X.env.scope x := by
  unfold L2.Loc
  rw [c.hs]
  exact lcB_eq h
theorem Cd.nd' (c : Cd CX k wd N sc X) : X.N.Nodup := by rw [c.hN]; exact c.nd
theorem Cd.at (c : Cd CX k wd N sc X) {i : Nat} {x : Str} (h : N[i]? = some x) : X.N[i]? = some x := by rw [c.hN]; exact h
theorem run_nil {s : S} (h : Le (eS s) ρ) : Run X wd eS eB eT ρ [] (R.ret (.nx s)) := fun F ad σ H Dn st q => bss pss_nil (q ad σ H (.less fun _ => h.own) (st.le h))
theorem run_le {ss : List Stmt} {o : R (Out S B T)} (h : Le ρ1 ρ) (r : Run X wd eS eB eT ρ1 ss o) : Run X wd eS eB eT ρ ss o := fun F ad σ H Dn st q => r F ad σ H Dn (st.le h) (wp_adv (.less fun _ => h.own) q)
/-- behind an expression that is d -/
theorem step_ev {o : D → R (Out S B T)} {σ : L2.St} {H : Hp} {F : Addr → Prop} {ad : Nat → Addr} {Dn : Ends} {Q : VK} (ha : Ev X wd ρ e ra) (st : StOk X.K wd.dr F ρ σ H ad) (q : (ra.bind o).wp (OutOk X wd eS eB eT F ρ ad H Dn) (XPs X wd F ρ ad H))
    (h : ∀ d v H', Grow wd.dr H H' → Rep X.K (Ban F ρ ad) H' v d → (o d).wp (OutOk X wd eS eB eT F ρ ad H' Dn) (XPs X wd F ρ ad H') → Q v H') : BE X e σ H Q := by
  rw [wp_bind] at q
  exact ha F ad σ H _ st (wp_mono (fun d q v H' g r => h d v H' g r (wp_adv (.grow g) q)) (fun _ _ z => z.xp st) q)
/-- x = e -/
theorem run_set (c : Cd CX k wd N sc X) {i : Nat} {x : Str} {o : D → R (Out S B T)} (hx : lcB sc x = true) (hN : N[i]? = some x) (ha : Ev X wd ρ e ra) (hr : ∀ d, Run X wd eS eB eT (ρ.set i (.d d)) rest (o d))
    (hs : swapsWith e (some (.Name x p)) pos.line X.env = pure false := by rfl) : Run X wd eS eB eT ρ (.Assign [.Name x p] e pos :: rest) (ra.bind o) := fun F ad σ H Dn st q =>
  bss (pss_cons (ps_set c.nd' (c.at hN) (c.loc hx) pe_b hs (.inl (c.fn x))) pss_b) (step_ev ha st q fun d v H' g r q => hr d F ad (σ.set i (some v)) H' Dn ((st.grow g).set r) (wp_adv .set q))
/-- e alone -/
theorem run_expr {o : R (Out S B T)} (ha : Ev X wd ρ e ra) (hr : Run X wd eS eB eT ρ rest o) (hs : swapsWith e none pos.line X.env = pure false := by rfl) : Run X wd eS eB eT ρ (.Expr e pos :: rest) (ra.bind fun _ => o) := fun F ad σ H Dn st q =>
  bss (pss_cons (ps_expr pe_b hs) pss_b) (step_ev ha st q fun d v H' g r q => hr F ad σ H' Dn (st.grow g) q)
/-- return e -/
theorem run_ret {t : T} (ha : Ev X wd ρ e ra) (ht : ∀ (i : Nat) (s : Sl), (eT t)[i]? = some s → s.own = true → ρ[i]? = some s) : Run X wd eS eB eT ρ [.Return (some e) pos] (ra.bind fun d => R.ret (.rt d t)) := fun F ad σ H Dn st q =>
  bss (pss_one (ps_ret pe_b)) (step_ev (o := fun d => R.ret (.rt d t)) ha st q fun d v H' g r q => q v ad ρ σ H' .refl (st.grow g) ht (.inl r))
theorem run_retN {t : T} (ht : ∀ (i : Nat) (s : Sl), (eT t)[i]? = some s → s.own = true → ρ[i]? = some s) : Run X wd eS eB eT ρ [.Return none pos] (R.ret (.rt .none t)) := fun F ad σ H Dn st q =>
  bss (pss_one ps_retN) (q _ ad ρ σ H .refl st ht (.inl .non))
theorem run_pass {o : R (Out S B T)} (hr : Run X wd eS eB eT ρ rest o) : Run X wd eS eB eT ρ (.Pass pos :: rest) o := fun F ad σ H Dn st q => bss (pss_cons ps_pass pss_b) (hr F ad σ H Dn st q)
theorem run_break {s : B} (h : Le (eB s) ρ) : Run X wd eS eB eT ρ [.Break pos] (R.ret (.bk s)) := fun F ad σ H Dn st q => bss (pss_one ps_break) (q ad σ H (.less fun _ => h.own) (st.le h))
theorem run_cont {s : B} (h : Le (eB s) ρ) : Run X wd eS eB eT ρ [.Continue pos] (R.ret (.ct s)) := fun F ad σ H Dn st q => bss (pss_one ps_continue) (q ad σ H (.less fun _ => h.own) (st.le h))
/-- if, the last of its block -/
theorem run_if1 {tc : R Bool} {oa ob : R (Out S B T)} (hc : EvT X wd ρ e tc) (hA : Run X wd eS eB eT ρ A1 oa) (hB : Run X wd eS eB eT ρ B1 ob) : Run X wd eS eB eT ρ [.If e A1 B1 pos] (tc.bind fun b => if b = true then oa else ob) := fun F ad σ H Dn st q => by
  refine bss (pss_one (ps_if pt_b pss_b pss_b)) ?_
  rw [wp_bind] at q
  refine hc F ad σ H _ st (wp_mono (fun x q H1 g1 => ?_) (fun _ _ z => z.xp st) q)
  have q := wp_adv (.grow g1) q
  cases x with
  | true => exact iteT (hA F ad σ H1 Dn (st.grow g1) q)
  | false => exact iteF (hB F ad σ H1 Dn (st.grow g1) q)
/-- if, and what follows -/
theorem run_if {tc : R Bool} {oa ob : R (Out S1 B T)} {o : S1 → R (Out S B T)} (hc : EvT X wd ρ e tc) (hA : Run X wd eS1 eB eT ρ A1 oa) (hB : Run X wd eS1 eB eT ρ B1 ob) (hr : ∀ s, Run X wd eS eB eT (eS1 s) rest (o s)) :
    Run X wd eS eB eT ρ (.If e A1 B1 pos :: rest) (tc.bind fun b => seqR (if b = true then oa else ob) o) := fun F ad σ H Dn st q => by
  refine bss (pss_cons (ps_if pt_b pss_b pss_b) pss_b) ?_
  rw [wp_bind] at q
  refine hc F ad σ H _ st (wp_mono (fun x q H1 g1 => ?_) (fun _ _ z => z.xp st) q)
  have q := wp_adv (.grow g1) q
  unfold seqR at q
  rw [wp_bind] at q
  have key : ∀ r : R (Out S1 B T), r.wp (fun x => (match x with
      | .nx s => o s
      | .bk b => R.ret (.bk b)
      | .ct b => R.ret (.ct b)
      | .rt d t => R.ret (.rt d t)).wp (OutOk X wd eS eB eT F ρ ad H1 Dn) (XPs X wd F ρ ad H1)) (XPs X wd F ρ ad H1) →
      r.wp (OutOk X wd eS1 eB eT F ρ ad H1 { Dn with nx := BSs X rest Dn }) (XPs X wd F ρ ad H1) := fun r q => by
    refine wp_mono (fun x q => ?_) (fun _ _ z => z) q
    cases x with
    | nx s => exact fun ad' σ' H' a s' => hr s F ad' σ' H' Dn s' (wp_adv a q)
    | bk b => exact q
    | ct b => exact q
    | rt d t => exact q
  cases x with
  | true => exact iteT (hA F ad σ H1 _ (st.grow g1) (key _ q))
  | false => exact iteF (hB F ad σ H1 _ (st.grow g1) (key _ q))
/-- a block that does not come to its end, as one with any end -/
def up {S B T : Type} (r : R (Out Empty B T)) : R (Out S B T) := r.bind fun o => match o with
  | .nx s => s.elim
  | .bk b => R.ret (.bk b)
  | .ct b => R.ret (.ct b)
  | .rt d t => R.ret (.rt d t)
@[simp] theorem up_rt {S B T : Type} (d : D) (t : T) : up (S := S) (B := B) (R.ret (.rt d t)) = R.ret (.rt d t) := rfl
/-- if, its first block leaves, no second one; what follows -/
theorem run_ifx {tc : R Bool} {oa : R (Out Empty B T)} {o : R (Out S B T)} {eE : Empty → List Sl} (hc : EvT X wd ρ e tc) (hA : Run X wd eE eB eT ρ A1 oa) (hr : Run X wd eS eB eT ρ rest o) :
    Run X wd eS eB eT ρ (.If e A1 [] pos :: rest) (tc.bind fun b => if b = true then up oa else o) := fun F ad σ H Dn st q => by
  refine bss (pss_cons (ps_if pt_b pss_b pss_nil) pss_b) ?_
  rw [wp_bind] at q
  refine hc F ad σ H _ st (wp_mono (fun x q H1 g1 => ?_) (fun _ _ z => z.xp st) q)
  have q := wp_adv (.grow g1) q
  cases x with
  | true =>
    refine iteT (hA F ad σ H1 _ (st.grow g1) ?_)
    have q : (up oa).wp (OutOk X wd eS eB eT F ρ ad H1 Dn) (XPs X wd F ρ ad H1) := q
    unfold up at q
    rw [wp_bind] at q
    refine wp_mono (fun x q => ?_) (fun _ _ z => z) q
    cases x with
    | nx s => exact s.elim
    | bk b => exact q
    | ct b => exact q
    | rt d t => exact q
  | false => exact iteF (hr F ad σ H1 Dn (st.grow g1) q)
/-- for .. -/
theorem run_forG [Calm wd] (c : Cd CX k wd N sc X) {tg iter : Expr} {body : List Stmt} {g : TG} {vs : List Nat} {st : S1 → D → Option (List Sl)} {r : R (List D)} {s0 : S1} {f : D → S1 → R (Out S1 S1 T)} {o : S1 → R (Out S B T)} (hi : EvI X wd ρ tg iter r) (hl : Le (eS1 s0) ρ)
    (hg : PG X tg g) (hgs : ∀ s, GS X.K wd.dr g vs (eS1 s) (st s)) (hno : ∀ s d, st s d = none → f d s = bad) (hb : ∀ s d ρ', st s d = some ρ' → Run X wd eS1 eS1 eT ρ' body (f d s)) (hr : ∀ s, Run X wd eS eB eT (eS1 s) rest (o s))
    (hs : ∀ x, foldedSetIterable iter X.env x = pure x := by exact fun _ => rfl) : Run X wd eS eB eT ρ (.For tg iter body [] pos :: rest) (r.bind fun ds => seqR (forR f ds s0) o) := fun F ad σ H Dn sk q => by
  refine bss (pss_cons (ps_for c.po c.calm pi_b hg pss_b hs) pss_b) ?_
  rw [wp_bind] at q
  refine hi F ad σ H _ sk (wp_mono (fun ds q J H1 g1 hJ => ?_) (fun _ _ z => z.xp sk) q)
  have sk1 := sk.grow g1
  have q := wp_adv (.grow g1) q
  obtain ⟨Vd, v0, vS, vG, vY, vE⟩ := hJ (fun b => Ban F ρ ad b ∨ H1 b = none) (fun b z => z) (fun b z => .inl z)
  -- what stays through the loop
  have stay : ∀ {ρ' : List Sl} {ad' : Nat → Addr} {H' : Hp}, Adv wd ρ ad H1 ρ' ad' H' → Stay (fun b => Ban F ρ ad b ∨ H1 b = none) H1 H' := fun {ρ' ad' H'} a b o e nb => (a.keep b o e (fun z => nb (.inl (sk.drF z))) fun z => nb (.inl (.inr z))).1
  have ban : ∀ {ρ' : List Sl} {ad' : Nat → Addr} {H' : Hp}, Adv wd ρ ad H1 ρ' ad' H' → ∀ b, Ban F ρ' ad' b → Ban F ρ ad b ∨ H1 b = none := fun {ρ' ad' H'} a b z => by
    rcases z with z | z
    · exact .inl (.inl z)
    · cases e : H1 b with
      | none => exact .inr rfl
      | some x =>
        refine .inl ?_
        by_cases hd : Has wd.dr b
        · exact sk.drF hd
        · by_cases ho : OwnA ρ ad b
          · exact .inr ho
          · exact absurd z (a.keep b x e hd ho).2
  have fin : ∀ {s : S1} {ad' : Nat → Addr} {σ' : L2.St} {H' : Hp}, Adv wd ρ ad H1 (eS1 s) ad' H' → StOk X.K wd.dr F (eS1 s) σ' H' ad' → (o s).wp (OutOk X wd eS eB eT F ρ ad H1 Dn) (XPs X wd F ρ ad H1) → BSs X rest Dn σ' H' := fun {s ad' σ' H'} a s' q =>
    hr s F ad' σ' H' Dn s' (wp_adv a q)
  generalize hIn : (fun (i : Nat) (σ' : L2.St) (H' : Hp) => ∃ s ad', Adv wd ρ ad H1 (eS1 s) ad' H' ∧ StOk X.K wd.dr F (eS1 s) σ' H' ad' ∧
      (seqR (forR f (ds.drop i) s) o).wp (OutOk X wd eS eB eT F ρ ad H1 Dn) (XPs X wd F ρ ad H1)) = In
  refine ⟨fun i m σ' H' => m = ds.length - i ∧ i ≤ ds.length ∧ In i σ' H', ⟨ds.length, rfl, Nat.zero_le _, by subst hIn; exact ⟨s0, ad, .less fun _ => hl.own, sk1.le hl, q⟩⟩, ?_⟩
  rintro i m σ2 H2 ⟨rfl, hi', hI⟩
  have hI' := hI
  rw [← hIn] at hI'
  obtain ⟨s, ad2, a2, sk2, q⟩ := hI'
  have vd : Vd H2 := vS _ _ v0 (stay a2)
  by_cases hlt : i < ds.length
  · refine .inr ⟨vG _ _ vd hlt, In (i + 1), fun σ' H' z => ⟨ds.length - (i + 1), by omega, rfl, hlt, z⟩, ?_⟩
    intro x H3 y
    obtain ⟨sm, rx⟩ := vY _ _ _ _ ds[i] vd y (List.getElem?_eq_getElem hlt)
    have g3 : Grow wd.dr H2 H3 := Grow.same sm
    have sk3 := sk2.grow g3
    have a3 : Adv wd ρ ad H1 (eS1 s) ad2 H3 := a2.trans (.grow g3)
    rw [List.drop_eq_getElem_cons hlt] at q
    unfold forR seqR at q
    rw [bind_assoc, wp_bind] at q
    cases est : st s ds[i] with
    | none => rw [hno s _ est] at q; exact q.elim
    | some ρ' =>
      refine hgs s F ad2 σ2 H3 x ds[i] ρ' _ sk3 (rx.weak (ban a3)) est fun σ' s' ho2 ho w => ?_
      have a4 : Adv wd ρ ad H1 ρ' ad2 H3 := a3.trans (.less ho)
      refine hb s ds[i] ρ' est F ad2 σ' H3 _ s' (wp_mono (fun x q => ?_) (fun _ _ z => z.adv a4) q)
      cases x with
      | nx s5 => subst hIn; exact fun ad5 σ5 H5 a5 s5' => ⟨s5, ad5, a4.trans a5, s5', q⟩
      | ct s5 => subst hIn; exact fun ad5 σ5 H5 a5 s5' => ⟨s5, ad5, a4.trans a5, s5', q⟩
      | bk s5 => exact fun ad5 σ5 H5 a5 s5' => fin (a4.trans a5) s5' q
      | rt d t => exact OutOk.adv (o := .rt d t) a4 q
  · have e : i = ds.length := by omega
    subst e
    rw [List.drop_length] at q
    exact .inl ⟨vE _ vd, fin a2 sk2 q⟩
/-- for x in .. -/
theorem run_for [Calm wd] (c : Cd CX k wd N sc X) {i : Nat} {x : Str} {iter : Expr} {body : List Stmt} {r : R (List D)} {s0 : S1} {f : D → S1 → R (Out S1 S1 T)} {o : S1 → R (Out S B T)} (hx : lcB sc x = true) (hN : N[i]? = some x) (hi : EvI X wd ρ (.Name x p) iter r) (hl : Le (eS1 s0) ρ)
    (hb : ∀ s d, Run X wd eS1 eS1 eT ((eS1 s).set i (.d d)) body (f d s)) (hr : ∀ s, Run X wd eS eB eT (eS1 s) rest (o s))
    (hs : ∀ x, foldedSetIterable iter X.env x = pure x := by exact fun _ => rfl) : Run X wd eS eB eT ρ (.For (.Name x p) iter body [] pos :: rest) (r.bind fun ds => seqR (forR f ds s0) o) :=
  run_forG c (vs := [i]) (st := fun s d => some ((eS1 s).set i (.d d))) hi hl (pg_name c.nd' (c.at hN) (c.loc hx) (.inl (c.fn x))) (fun s => gs_name) (fun s d e => by cases e) (fun s d ρ' e => by cases e; exact hb s d) hr hs
end
end Pu
/-! Pt: owned lists, unpacking, defs by their bodies, the draws. -/
namespace Pu
open PySem PySem.Spec PyProof.Rows L2 R
section
variable {K : PySem.W.Frag} {dr : Drs} {F : Addr → Prop} {ρ ρ' : List Sl} {σ σ' : L2.St} {H H' : Hp} {ad ad' : Nat → Addr}
/-- a new object is owned by slot i -/
theorem StOk.setOwn (s : StOk K dr F ρ σ H ad) (g : Grow dr H H') {i : Nat} {p : Addr} {sl : Sl} (hp : H p = none) (hs : sl.own = true) (h : SlOk K dr F (Ban F (ρ.set i sl) fun j => if j = i then p else ad j) H' (some (some (.ref p))) p sl) :
    StOk K dr F (ρ.set i sl) (σ.set i (some (.ref p))) H' (fun j => if j = i then p else ad j) := by
  have s' := s.grow g
  have ow : ∀ {j}, Own (ρ.set i sl) j → j ≠ i → Own ρ j := fun {j} o hj => by
    obtain ⟨t, e, q⟩ := o
    rw [List.getElem?_set_ne (Ne.symm hj)] at e
    exact ⟨t, e, q⟩
  have np : ∀ {j}, Own ρ j → ad j ≠ p := fun {j} o e => by
    obtain ⟨x, ex, _⟩ := s.there o
    rw [e, hp] at ex; cases ex
  have hb : ∀ b, Ban F (ρ.set i sl) (fun j => if j = i then p else ad j) b → Ban F ρ ad b ∨ H b = none := by
    rintro b (b | ⟨j, o, e⟩)
    · exact .inl (.inl b)
    · by_cases hj : j = i
      · simp only [hj, if_true] at e
        subst e
        exact .inr hp
      · simp only [hj, if_false] at e
        exact .inl (.inr ⟨j, ow o hj, e⟩)
  have st : Stay (Ban F (ρ.set i sl) fun j => if j = i then p else ad j) H H' := fun b o eb nb => g.keep b o eb fun z => nb (.inl (s.dF z))
  refine ⟨by simpa using s.len, fun a b oa ob e => ?_, fun a oa z => ?_, s'.fa, s'.dk, s'.tb, fun j t e => ?_⟩
  · by_cases ha : a = i <;> by_cases hb : b = i
    · rw [ha, hb]
    · simp only [ha, hb, if_true, if_false] at e
      exact absurd e.symm (np (ow ob hb))
    · simp only [ha, hb, if_true, if_false] at e
      exact absurd e (np (ow oa ha))
    · simp only [ha, hb, if_false] at e
      exact s.inj a b (ow oa ha) (ow ob hb) e
  · by_cases ha : a = i
    · simp only [ha, if_true] at z
      obtain ⟨x, ex, _⟩ := s.fa p z
      rw [hp] at ex; cases ex
    · simp only [ha, if_false] at z
      exact s.nf a (ow oa ha) z
  · by_cases hj : j = i
    · subst hj
      by_cases hl : j < ρ.length
      · rw [List.getElem?_set_self hl] at e
        cases e
        rw [List.getElem?_set_self (by rw [s.len]; exact hl)]
        simp only [if_true]
        exact h
      · rw [List.getElem?_eq_none (by simpa using hl)] at e; cases e
    · rw [List.getElem?_set_ne (Ne.symm hj)] at e
      rw [List.getElem?_set_ne (Ne.symm hj)]
      simp only [hj, if_false]
      refine (s.sl j t e).mono (fun v d r => (r.ban hb).stay st) (fun v d r => (r.ban hb).stay st) (fun ho o eo => g.keep _ o eo fun z => ?_) (fun _ z => z) (fun e o _ n eo => g.keep e o eo n)
      exact s.nf j ⟨t, e, ho⟩ (s.dF z)
theorem Adv.setOwn {wd : Wd} {i : Nat} {p : Addr} {sl : Sl} (hp : H p = none) (hi : wd.pin i = false) : Adv wd ρ ad H (ρ.set i sl) (fun j => if j = i then p else ad j) H := by
  refine ⟨fun b o e n m => ⟨e, fun ⟨j, ⟨t, et, q⟩, ej⟩ => ?_⟩, fun _ _ _ h => h, fun j hj => ?_⟩
  · by_cases hji : j = i
    · simp only [hji, if_true] at ej
      rw [← ej, hp] at e; cases e
    · simp only [hji, if_false] at ej
      rw [List.getElem?_set_ne (Ne.symm hji)] at et
      exact m ⟨j, ⟨t, et, q⟩, ej⟩
  · by_cases hji : j = i
    · rw [hji, hi] at hj; cases hj
    · simp only [hji, if_false]
/-- an owned object is written -/
theorem StOk.mut (s : StOk K dr F ρ σ H ad) {i : Nat} {sl : Sl} {o : HO} (ow : Own ρ i) (hs : sl.own = true) (h : SlOk K dr F (Ban F ρ ad) (upd H (ad i) o) σ[i]? (ad i) sl) : StOk K dr F (ρ.set i sl) σ (upd H (ad i) o) ad := by
  have oi : ∀ {j}, Own (ρ.set i sl) j → Own ρ j := fun {j} oj => by
    by_cases hj : j = i
    · rw [hj]; exact ow
    · obtain ⟨t, e, q⟩ := oj
      rw [List.getElem?_set_ne (Ne.symm hj)] at e
      exact ⟨t, e, q⟩
  have hb : ∀ b, Ban F (ρ.set i sl) ad b → Ban F ρ ad b := by
    rintro b (b | ⟨j, o, e⟩)
    · exact .inl b
    · exact .inr ⟨j, oi o, e⟩
  have st : Stay (Ban F ρ ad) H (upd H (ad i) o) := fun b u eb nb => by
    rw [upd_ne fun z => nb (by rw [z]; exact .inr ⟨i, ow, rfl⟩)]
    exact eb
  have nF : ∀ {b}, F b → b ≠ ad i := fun {b} fb z => s.nf i ow (by rw [← z]; exact fb)
  refine ⟨by simpa using s.len, fun a b x y => s.inj a b (oi x) (oi y), fun a x => s.nf a (oi x), fun b fb => ?_, fun a l e => ?_, s.tbU ow _, fun j t e => ?_⟩
  · obtain ⟨u, eu, nt⟩ := s.fa b fb
    exact ⟨u, by rw [upd_ne (nF fb)]; exact eu, nt⟩
  · obtain ⟨f, fl, ne, q⟩ := s.dk a l e
    exact ⟨f, fl, ne, q.imp (fun x e => by rw [upd_ne (nF f)]; exact e) fun x e => by rw [upd_ne (nF fl)]; exact e⟩
  · by_cases hj : j = i
    · subst hj
      by_cases hl : j < ρ.length
      · rw [List.getElem?_set_self hl] at e
        cases e
        exact h.mono (fun v d r => r.weak hb) (fun v d r => r.weak hb) fun _ _ q => q
      · rw [List.getElem?_eq_none (by simpa using hl)] at e; cases e
    · rw [List.getElem?_set_ne (Ne.symm hj)] at e
      refine (s.sl j t e).mono (fun v d r => (r.stay st).weak hb) (fun v d r => (r.stay st).weak hb) (fun ho u eu => ?_) (fun _ z => z) (fun e o fe _ eo => by rw [upd_ne (nF fe)]; exact eo)
      rw [upd_ne fun z => hj (s.inj j i ⟨t, e, ho⟩ ow z)]
      exact eu
theorem Adv.mut {wd : Wd} (s : StOk K wd.dr F ρ σ H ad) {i : Nat} {sl : Sl} {o : HO} (ow : Own ρ i) : Adv wd ρ ad H (ρ.set i sl) ad (upd H (ad i) o) := by
  refine ⟨fun b u e n m => ⟨?_, fun ⟨j, ⟨t, et, q⟩, ej⟩ => m ⟨j, ?_, ej⟩⟩, fun a l z q => ?_, fun _ _ => rfl⟩
  · rw [upd_ne fun z => m ⟨i, ow, z.symm⟩]
    exact e
  · by_cases hj : j = i
    · rw [hj]; exact ow
    · rw [List.getElem?_set_ne (Ne.symm hj)] at et
      exact ⟨t, et, q⟩
  · obtain ⟨f, fl, _, _⟩ := s.dk a l z
    have nF : ∀ {b}, F b → b ≠ ad i := fun {b} fb z => s.nf i ow (by rw [← z]; exact fb)
    exact q.imp (fun x e => by rw [upd_ne (nF f)]; exact e) fun x e => by rw [upd_ne (nF fl)]; exact e
end
section
variable {CX : CXT} {k : Nat} {wd : Wd} {N : List Str} {sc : Scope} {X : Cx} {S S' S1 B B' T : Type} {eS : S → List Sl} {eS1 : S1 → List Sl} {eS' : S' → List Sl} {eB : B → List Sl} {eB' : B' → List Sl} {eT : T → List Sl} {ρ ρ1 : List Sl} {e a b tg iter elt : Expr} {ifs : List Expr} {rest A1 B1 : List Stmt} {pos p py : Pos} {ra rb : R D}
/-- how a new list comes: a reading of any form -/
def LsR (X : Cx) (wd : Wd) (ρ : List Sl) (t : TE) (r : R (List D)) : Prop := ∀ (F : Addr → Prop) (ad : Nat → Addr) (σ : L2.St) (H : Hp) (Q : VK), StOk X.K wd.dr F ρ σ H ad →
  r.wp (fun ds => ∀ a vs H', Grow wd.dr H H' → H a = none → H' a = some (.lst vs) → Reps X.K (fun b => Ban F ρ ad b ∨ b = a) H' vs ds → Q (.ref a) H') (XP X wd F ρ ad H) → t σ H Q
/-- x = a new list that x owns -/
theorem setO_core {i : Nat} {t : TE} {st : Stmt} {o : List D → R (Out S B T)} {r : R (List D)} (hp : PS X st (tAsg t (gName i))) (ht : LsR X wd ρ t r) (hi : wd.pin i = false) (hr : ∀ ds, Run X wd eS eB eT (ρ.set i (.l ds)) rest (o ds)) : Run X wd eS eB eT ρ (st :: rest) (r.bind o) := fun F ad σ H Dn sk q => by
  refine bss (pss_cons hp pss_b) ?_
  rw [wp_bind] at q
  refine ht F ad σ H _ sk (wp_mono (fun ds q a vs H1 g ha e r => ?_) (fun _ _ z => z.xp sk) q)
  have hb : ∀ b, Ban F (ρ.set i (.l ds)) (fun j => if j = i then a else ad j) b → Ban F ρ ad b ∨ b = a := by
    rintro b (b | ⟨j, ⟨t, et, qt⟩, e⟩)
    · exact .inl (.inl b)
    · by_cases hj : j = i
      · simp only [hj, if_true] at e; exact .inr e.symm
      · simp only [hj, if_false] at e
        rw [List.getElem?_set_ne (Ne.symm hj)] at et
        exact .inl (.inr ⟨j, ⟨t, et, qt⟩, e⟩)
  exact hr ds F _ _ H1 Dn (sk.setOwn g ha rfl ⟨rfl, vs, e, r.weak hb⟩) (wp_adv (.trans (.setOwn ha hi) (.grow g)) q)
/-- x = a new list that nobody changes -/
theorem setF_core {i : Nat} {t : TE} {st : Stmt} {o : List D → R (Out S B T)} {r : R (List D)} (hp : PS X st (tAsg t (gName i))) (ht : LsR X wd ρ t r) (hr : ∀ ds, Run X wd eS eB eT (ρ.set i (.d (.list ds))) rest (o ds)) : Run X wd eS eB eT ρ (st :: rest) (r.bind o) := fun F ad σ H Dn sk q => by
  refine bss (pss_cons hp pss_b) ?_
  rw [wp_bind] at q
  refine ht F ad σ H _ sk (wp_mono (fun ds q a vs H1 g ha e r => ?_) (fun _ _ z => z.xp sk) q)
  refine hr ds F ad _ H1 Dn ((sk.grow g).set (.lst (.inl e) (fun z => ?_) (r.weak fun b => .inl))) (wp_adv (.trans (.grow g) .set) q)
  obtain ⟨x, ex, _⟩ := sk.banned z
  rw [ha] at ex; cases ex
theorem lsr_ev {r : R (List D)} (h : EvL X wd ρ e r) : LsR X wd ρ (BE X e) r := h
theorem run_setO (c : Cd CX k wd N sc X) {i : Nat} {x : Str} {o : List D → R (Out S B T)} {r : R (List D)} (hx : lcB sc x = true) (hN : N[i]? = some x) (hi : wd.pin i = false) (ha : EvL X wd ρ e r) (hr : ∀ ds, Run X wd eS eB eT (ρ.set i (.l ds)) rest (o ds))
    (hs : swapsWith e (some (.Name x p)) pos.line X.env = pure false := by rfl) : Run X wd eS eB eT ρ (.Assign [.Name x p] e pos :: rest) (r.bind o) :=
  setO_core (ps_set c.nd' (c.at hN) (c.loc hx) pe_b hs (.inl (c.fn x))) ha hi hr
/-- what a statement «x = [..]» asks of the scope: x a local, no name of the comprehension, on one line -/
def swB (sc scope : Scope) (x : Str) (l1 l2 : Nat) : Bool := locB sc x && (l1 == l2) && !(scope.names.any fun (n, k) => n == x && (k == .local || k == .cell))
theorem swaps_of (c : Cd CX k wd N sc X) {scope : Scope} {x : Str} {gs : List Comprehension} (h : swB sc scope x p.line pos.line = true) {l : Nat} : swapsWith (.ListComp elt gs scope pos) (some (.Name x p)) l X.env = pure true := by
  unfold swB at h
  rw [Bool.and_eq_true, Bool.and_eq_true] at h
  obtain ⟨⟨h1, h2⟩, h3⟩ := h
  exact sw_true (by rw [c.hs]; exact c.kind) (by rw [c.hs]; exact locB_eq h1) h2 (by simpa using h3)
theorem ps_comp [Calm wd] (c : Cd CX k wd N sc X) {scope : Scope} {own : List (Str × Nat)} {g : TG} {i : Nat} {x : Str} {spos : Pos} (hx : swB sc scope x p.line pos.line = true) (hN : N[i]? = some x) (hok : blkC N sc scope own = true) (hg : BlkG X scope tg g) (hl : ifs.length ≤ 1) (hs : ∀ x, foldedSetIterable iter X.env x = pure x) :
    PS X (.Assign [.Name x p] (.ListComp elt [⟨tg, iter, ifs, 0⟩] scope pos) spos) (tAsg (tLc (BI X tg iter) g (bT X scope ifs) (bE X scope elt) (own.map (·.2))) (gName i)) := by
  have hx1 : X.env.scope.names.lookup x = some .local := by
    rw [c.hs]
    unfold swB at hx
    rw [Bool.and_eq_true, Bool.and_eq_true] at hx
    exact locB_eq hx.1.1
  exact ps_setLc (own := own) c.calm c.nd' (c.at hN) hx1 (swaps_of c hx) pi_b (by rw [c.hN, c.hs]; exact blkOk_by hok) hg (bT_pts hl) bE_pe hs
/-- x = [elt for y in iter], nobody changes it -/
theorem run_setC [Calm wd] (c : Cd CX k wd N sc X) {scope : Scope} {i j : Nat} {x y : Str} {spos : Pos} {f : D → R D} {r : R (List D)} {o : List D → R (Out S B T)} (hx : swB sc scope x p.line pos.line = true) (hN : N[i]? = some x) (hok : blkC N sc scope [(y, j)] = true) (hNy : N[j]? = some y) (hy : tgB scope sc y = true) {sl : Sl} (hno : ρ[j]? = some sl) (hsl : sl.own = false)
    (hi : EvJ X wd ρ (.Name y py) iter r) (hel : ∀ d s0 H0 C cl fp, Ev (X.blk s0 H0 scope (compEnvC scope cl C X.env) fp) wd.calm (ρ.set j (.d d)) elt (f d)) (hr : ∀ ds, Run X wd eS eB eT (ρ.set i (.d (.list ds))) rest (o ds)) (hs : ∀ x, foldedSetIterable iter X.env x = pure x := by exact fun _ => rfl) :
    Run X wd eS eB eT ρ (.Assign [.Name x p] (.ListComp elt [⟨.Name y py, iter, [], 0⟩] scope pos) spos :: rest) ((r.bind fun ds => compR (fun _ => R.ret true) f ds []).bind o) :=
  setF_core (ps_comp c (own := [(y, j)]) hx hN hok (blkg_name c.toCw hNy hy) (Nat.zero_le _) hs)
    (fun F ad σ H Q s q => lc_read hi (gs_name1 ρ) (fun z hz => by simp at hz; subst hz; exact not_own hno hsl) ⟨fun d e => (by cases e), fun d ρ' e => (by cases e; exact hel d), fun d ρ' e => rfl⟩ F ad σ H Q s q) hr
theorem run_setCO [Calm wd] (c : Cd CX k wd N sc X) {scope : Scope} {i j : Nat} {x y : Str} {spos : Pos} {f : D → R D} {r : R (List D)} {o : List D → R (Out S B T)} (hx : swB sc scope x p.line pos.line = true) (hN : N[i]? = some x) (hp : wd.pin i = false) (hok : blkC N sc scope [(y, j)] = true) (hNy : N[j]? = some y) (hy : tgB scope sc y = true) {sl : Sl} (hno : ρ[j]? = some sl) (hsl : sl.own = false)
    (hi : EvJ X wd ρ (.Name y py) iter r) (hel : ∀ d s0 H0 C cl fp, Ev (X.blk s0 H0 scope (compEnvC scope cl C X.env) fp) wd.calm (ρ.set j (.d d)) elt (f d)) (hr : ∀ ds, Run X wd eS eB eT (ρ.set i (.l ds)) rest (o ds)) (hs : ∀ x, foldedSetIterable iter X.env x = pure x := by exact fun _ => rfl) :
    Run X wd eS eB eT ρ (.Assign [.Name x p] (.ListComp elt [⟨.Name y py, iter, [], 0⟩] scope pos) spos :: rest) ((r.bind fun ds => compR (fun _ => R.ret true) f ds []).bind o) :=
  setO_core (ps_comp c (own := [(y, j)]) hx hN hok (blkg_name c.toCw hNy hy) (Nat.zero_le _) hs)
    (fun F ad σ H Q s q => lc_read hi (gs_name1 ρ) (fun z hz => by simp at hz; subst hz; exact not_own hno hsl) ⟨fun d e => (by cases e), fun d ρ' e => (by cases e; exact hel d), fun d ρ' e => rfl⟩ F ad σ H Q s q) hp hr
theorem run_setCif [Calm wd] (c : Cd CX k wd N sc X) {scope : Scope} {i j : Nat} {x y : Str} {spos : Pos} {t : Expr} {cf : D → R Bool} {f : D → R D} {r : R (List D)} {o : List D → R (Out S B T)} (hx : swB sc scope x p.line pos.line = true) (hN : N[i]? = some x) (hok : blkC N sc scope [(y, j)] = true) (hNy : N[j]? = some y) (hy : tgB scope sc y = true) {sl : Sl} (hno : ρ[j]? = some sl) (hsl : sl.own = false)
    (hi : EvJ X wd ρ (.Name y py) iter r) (ht : ∀ d s0 H0 C cl fp, EvT (X.blk s0 H0 scope (compEnvC scope cl C X.env) fp) wd.calm (ρ.set j (.d d)) t (cf d)) (hel : ∀ d s0 H0 C cl fp, Ev (X.blk s0 H0 scope (compEnvC scope cl C X.env) fp) wd.calm (ρ.set j (.d d)) elt (f d)) (hr : ∀ ds, Run X wd eS eB eT (ρ.set i (.d (.list ds))) rest (o ds)) (hs : ∀ x, foldedSetIterable iter X.env x = pure x := by exact fun _ => rfl) :
    Run X wd eS eB eT ρ (.Assign [.Name x p] (.ListComp elt [⟨.Name y py, iter, [t], 0⟩] scope pos) spos :: rest) ((r.bind fun ds => compR cf f ds []).bind o) :=
  setF_core (ps_comp c (own := [(y, j)]) hx hN hok (blkg_name c.toCw hNy hy) (Nat.le_refl _) hs)
    (fun F ad σ H Q s q => lc_read hi (gs_name1 ρ) (fun z hz => by simp at hz; subst hz; exact not_own hno hsl) ⟨fun d e => (by cases e), fun d ρ' e => (by cases e; exact hel d), fun d ρ' e => (by cases e; exact ht d)⟩ F ad σ H Q s q) hr
/-- x = [..] where x is a cell: an ordinary store -/
theorem cell_swaps (c : Cw CX k wd N sc X) {scope : Scope} {x : Str} {gs : List Comprehension} (h : sc.names.lookup x = some .cell) {l : Nat} : swapsWith (.ListComp elt gs scope pos) (some (.Name x p)) l X.env = pure false := by
  have kx : X.env.kindOf x = some .cell := by
    show X.env.scope.names.lookup x = _
    rw [c.hs]
    exact h
  unfold swapsWith
  simp only [kx]
  rw [show ((some NameKind.cell == some NameKind.local) = false) from rfl, Bool.and_false, Bool.false_and, Bool.false_and]
/-! ### unpacking, += -/
def unp2 {α : Type} (d : D) (f : D → D → R α) : R α := match d with
  | .tuple [a, b] => f a b
  | _ => bad
def unp3 {α : Type} (d : D) (f : D → D → D → R α) : R α := match d with
  | .tuple [a, b, c] => f a b c
  | _ => bad
def unp4 {α : Type} (d : D) (f : D → D → D → D → R α) : R α := match d with
  | .tuple [a, b, c, e] => f a b c e
  | _ => bad
/-- several names set from a tuple -/
theorem unp_core (c : Cd CX k wd N sc X) {is : List Nat} {es : List Expr} {kt : Nat} {pt : Pos} {o : D → R (Out S B T)} {spos : Pos} (hg : PG X (.Tuple es kt pt) (gTup X.K is.length (gNames is))) (ha : Ev X wd ρ e ra) (hno : ∀ d, stT is.length is ρ d = none → o d = bad)
    (hr : ∀ d ρ', stT is.length is ρ d = some ρ' → Run X wd eS eB eT ρ' rest (o d)) (hs : swapsWithSole [.Tuple es kt pt] e spos.line X.env = pure false := by rfl) (hw : swappedStores [.Tuple es kt pt] e X.env = pure none := by rfl) (h1 : (assignEach [.Tuple es kt pt] X.env).map (·.2) = [assign (.Tuple es kt pt) X.env] := by rfl) :
    Run X wd eS eB eT ρ (.Assign [.Tuple es kt pt] e spos :: rest) (ra.bind o) := fun F ad σ H Dn st q => by
  refine bss (pss_cons (ps_asg pe_b hg hs hw h1) pss_b) (step_ev ha st q fun d v H' g r q => ?_)
  cases est : stT is.length is ρ d with
  | none => rw [hno d est] at q; exact q.elim
  | some ρ' => exact gs_tup F ad σ H' v d ρ' _ (st.grow g) r est fun σ' s' ho2 ho w => hr d ρ' est F ad σ' H' Dn s' (wp_adv (.less ho) q)
theorem pgn_nil : PGs X [] (gNames []) := pgs_nil
theorem pgn_cons (c : Cd CX k wd N sc X) {i : Nat} {x : Str} {es : List Expr} {is : List Nat} (hx : lcB sc x = true) (hN : N[i]? = some x) (h : PGs X es (gNames is)) (hs : (assignEach (.Name x p :: es) X.env).map (·.2) = assign (.Name x p) X.env :: (assignEach es X.env).map (·.2) := by rfl) : PGs X (.Name x p :: es) (gNames (i :: is)) :=
  pgs_cons (pg_name c.nd' (c.at hN) (c.loc hx) (.inl (c.fn x))) h hs
theorem stT2 {i j : Nat} {d : D} {ρ' : List Sl} (h : stT 2 [i, j] ρ d = some ρ') : ∃ a b, d = .tuple [a, b] ∧ ρ' = (ρ.set i (.d a)).set j (.d b) := by
  cases d with
  | tuple xs =>
    unfold stT at h
    match xs, h with
    | [a, b], h => cases h; exact ⟨a, b, rfl, rfl⟩
    | [], h => cases h
    | [_], h => cases h
    | _ :: _ :: _ :: _, h => simp at h
  | _ => cases h
theorem stT2n {i j : Nat} {d : D} {α : Type} {f : D → D → R α} (h : stT 2 [i, j] ρ d = none) : unp2 d f = bad := by
  cases d with
  | tuple xs =>
    match xs with
    | [a, b] => cases h
    | [] => rfl
    | [_] => rfl
    | _ :: _ :: _ :: _ => rfl
  | _ => rfl
theorem run_unp2 [Calm wd] (c : Cd CX k wd N sc X) {i j : Nat} {x y : Str} {kt : Nat} {pt px py spos : Pos} {o : D → D → R (Out S B T)} (hx : lcB sc x = true) (hN : N[i]? = some x) (hy : lcB sc y = true) (hN2 : N[j]? = some y) (ha : Ev X wd ρ e ra)
    (hr : ∀ a b, Run X wd eS eB eT ((ρ.set i (.d a)).set j (.d b)) rest (o a b)) (hs : swapsWithSole [.Tuple [.Name x px, .Name y py] kt pt] e spos.line X.env = pure false := by rfl) (hw : swappedStores [.Tuple [.Name x px, .Name y py] kt pt] e X.env = pure none := by rfl) :
    Run X wd eS eB eT ρ (.Assign [.Tuple [.Name x px, .Name y py] kt pt] e spos :: rest) (ra.bind fun d => unp2 d o) :=
  unp_core c (is := [i, j]) (pg_tup c.calm (pgn_cons c hx hN (pgn_cons c hy hN2 pgn_nil))) ha (fun d h => stT2n h) (fun d ρ' h => by obtain ⟨a, b, rfl, rfl⟩ := stT2 h; exact hr a b) hs hw
theorem stT3 {i j l : Nat} {d : D} {ρ' : List Sl} (h : stT 3 [i, j, l] ρ d = some ρ') : ∃ a b c, d = .tuple [a, b, c] ∧ ρ' = ((ρ.set i (.d a)).set j (.d b)).set l (.d c) := by
  cases d with
  | tuple xs =>
    unfold stT at h
    match xs, h with
    | [a, b, c], h => cases h; exact ⟨a, b, c, rfl, rfl⟩
    | [], h => cases h
    | [_], h => cases h
    | [_, _], h => cases h
    | _ :: _ :: _ :: _ :: _, h => simp at h
  | _ => cases h
theorem stT3n {i j l : Nat} {d : D} {α : Type} {f : D → D → D → R α} (h : stT 3 [i, j, l] ρ d = none) : unp3 d f = bad := by
  cases d with
  | tuple xs =>
    match xs with
    | [a, b, c] => cases h
    | [] => rfl
    | [_] => rfl
    | [_, _] => rfl
    | _ :: _ :: _ :: _ :: _ => rfl
  | _ => rfl
theorem run_unp3 [Calm wd] (c : Cd CX k wd N sc X) {i j l : Nat} {x y z : Str} {kt : Nat} {pt px py pz spos : Pos} {o : D → D → D → R (Out S B T)} (hx : lcB sc x = true) (hN : N[i]? = some x) (hy : lcB sc y = true) (hN2 : N[j]? = some y) (hz : lcB sc z = true) (hN3 : N[l]? = some z) (ha : Ev X wd ρ e ra)
    (hr : ∀ a b d, Run X wd eS eB eT (((ρ.set i (.d a)).set j (.d b)).set l (.d d)) rest (o a b d)) (hs : swapsWithSole [.Tuple [.Name x px, .Name y py, .Name z pz] kt pt] e spos.line X.env = pure false := by rfl) (hw : swappedStores [.Tuple [.Name x px, .Name y py, .Name z pz] kt pt] e X.env = pure none := by rfl) :
    Run X wd eS eB eT ρ (.Assign [.Tuple [.Name x px, .Name y py, .Name z pz] kt pt] e spos :: rest) (ra.bind fun d => unp3 d o) :=
  unp_core c (is := [i, j, l]) (pg_tup c.calm (pgn_cons c hx hN (pgn_cons c hy hN2 (pgn_cons c hz hN3 pgn_nil)))) ha (fun d h => stT3n h) (fun d ρ' h => by obtain ⟨a, b, c, rfl, rfl⟩ := stT3 h; exact hr a b c) hs hw
theorem stT4 {i j l m : Nat} {d : D} {ρ' : List Sl} (h : stT 4 [i, j, l, m] ρ d = some ρ') : ∃ a b c e, d = .tuple [a, b, c, e] ∧ ρ' = (((ρ.set i (.d a)).set j (.d b)).set l (.d c)).set m (.d e) := by
  cases d with
  | tuple xs =>
    unfold stT at h
    match xs, h with
    | [a, b, c, e], h => cases h; exact ⟨a, b, c, e, rfl, rfl⟩
    | [], h => cases h
    | [_], h => cases h
    | [_, _], h => cases h
    | [_, _, _], h => cases h
    | _ :: _ :: _ :: _ :: _ :: _, h => simp at h
  | _ => cases h
theorem stT4n {i j l m : Nat} {d : D} {α : Type} {f : D → D → D → D → R α} (h : stT 4 [i, j, l, m] ρ d = none) : unp4 d f = bad := by
  cases d with
  | tuple xs =>
    match xs with
    | [a, b, c, e] => cases h
    | [] => rfl
    | [_] => rfl
    | [_, _] => rfl
    | [_, _, _] => rfl
    | _ :: _ :: _ :: _ :: _ :: _ => rfl
  | _ => rfl
theorem run_unp4 [Calm wd] (c : Cd CX k wd N sc X) {i j l m : Nat} {x y z w : Str} {kt : Nat} {pt px py pz pw spos : Pos} {o : D → D → D → D → R (Out S B T)} (hx : lcB sc x = true) (hN : N[i]? = some x) (hy : lcB sc y = true) (hN2 : N[j]? = some y) (hz : lcB sc z = true) (hN3 : N[l]? = some z) (hw' : lcB sc w = true) (hN4 : N[m]? = some w) (ha : Ev X wd ρ e ra)
    (hr : ∀ a b d e, Run X wd eS eB eT ((((ρ.set i (.d a)).set j (.d b)).set l (.d d)).set m (.d e)) rest (o a b d e)) (hs : swapsWithSole [.Tuple [.Name x px, .Name y py, .Name z pz, .Name w pw] kt pt] e spos.line X.env = pure false := by rfl) (hw : swappedStores [.Tuple [.Name x px, .Name y py, .Name z pz, .Name w pw] kt pt] e X.env = pure none := by rfl) :
    Run X wd eS eB eT ρ (.Assign [.Tuple [.Name x px, .Name y py, .Name z pz, .Name w pw] kt pt] e spos :: rest) (ra.bind fun d => unp4 d o) :=
  unp_core c (is := [i, j, l, m]) (pg_tup c.calm (pgn_cons c hx hN (pgn_cons c hy hN2 (pgn_cons c hz hN3 (pgn_cons c hw' hN4 pgn_nil))))) ha (fun d h => stT4n h) (fun d ρ' h => by obtain ⟨a, b, c, e, rfl, rfl⟩ := stT4 h; exact hr a b c e) hs hw
/-- x += e, x -= e of ints -/
def iaddR : D → D → R D
  | .int i, .int j => R.ret (.int (i + j))
  | _, _ => bad
theorem aug_core {op : Operator} {fi : Int → Int → Int} {g : D → D → R D} (hop : PIp X op (ipI fi)) (hg : ∀ x y, (∃ i j, x = .int i ∧ y = .int j ∧ g x y = R.ret (.int (fi i j))) ∨ g x y = bad)
    (c : Cd CX k wd N sc X) {i : Nat} {x : Str} {o : D → R (Out S B T)} {d0 : D} (hx : lcB sc x = true) (hN : N[i]? = some x) (hρ : ρ[i]? = some (.d d0)) (ha : Ev X wd ρ e ra) (hr : ∀ d, Run X wd eS eB eT (ρ.set i (.d d)) rest (o d)) :
    Run X wd eS eB eT ρ (.AugAssign (.Name x p) op e pos :: rest) (ra.bind fun y => (g d0 y).bind o) := fun F ad σ H Dn st q => by
  refine bss (pss_cons (ps_aug c.nd' (c.at hN) (c.loc hx) pe_b hop (.inl (c.fn x))) pss_b) ?_
  obtain ⟨v, ev, rv⟩ := SlOk.at st hρ
  refine ⟨v, ev, step_ev (o := fun y => (g d0 y).bind o) ha st q fun d w H' g1 r q => ?_⟩
  rcases hg d0 d with ⟨a1, b1, rfl, rfl, e3⟩ | e3
  · rw [e3] at q
    cases rv
    cases r
    exact ⟨a1, b1, rfl, rfl, hr _ F ad _ H' Dn ((st.grow g1).set (.int _)) (wp_adv .set q)⟩
  · rw [e3] at q; exact q.elim
theorem run_iadd (c : Cd CX k wd N sc X) {i : Nat} {x : Str} {o : D → R (Out S B T)} {d0 : D} (hx : lcB sc x = true) (hN : N[i]? = some x) (hρ : ρ[i]? = some (.d d0)) (ha : Ev X wd ρ e ra) (hr : ∀ d, Run X wd eS eB eT (ρ.set i (.d d)) rest (o d)) :
    Run X wd eS eB eT ρ (.AugAssign (.Name x p) .Add e pos :: rest) (ra.bind fun y => (iaddR d0 y).bind o) :=
  aug_core ip_add (fun x y => by cases x <;> cases y <;> first | exact .inl ⟨_, _, rfl, rfl, rfl⟩ | exact .inr rfl) c hx hN hρ ha hr
theorem run_isub (c : Cd CX k wd N sc X) {i : Nat} {x : Str} {o : D → R (Out S B T)} {d0 : D} (hx : lcB sc x = true) (hN : N[i]? = some x) (hρ : ρ[i]? = some (.d d0)) (ha : Ev X wd ρ e ra) (hr : ∀ d, Run X wd eS eB eT (ρ.set i (.d d)) rest (o d)) :
    Run X wd eS eB eT ρ (.AugAssign (.Name x p) .Sub e pos :: rest) (ra.bind fun y => (subR d0 y).bind o) :=
  aug_core ip_sub (fun x y => by cases x <;> cases y <;> first | exact .inl ⟨_, _, rfl, rfl, rfl⟩ | exact .inr rfl) c hx hN hρ ha hr
/-! ### owned lists: append, return -/
/-- xs.append(e), xs owned -/
def appR (xs : List D) (d : D) : R (List D) := if xs.length < sizeLine then R.ret (xs ++ [d]) else bad
theorem run_app (c : Cd CX k wd N sc X) {i : Nat} {x : Str} {apos : Pos} {xs : List D} {o : List D → R (Out S B T)} (hx : visB sc x = true) (hN : N[i]? = some x) (hρ : ρ[i]? = some (.l xs)) (ha : Ev X wd ρ e ra) (hr : ∀ ys, Run X wd eS eB eT (ρ.set i (.l ys)) rest (o ys))
    (hbase : attributeBase (.Name x p) "append" X.env (eval (.Name x p) X.env) = eval (.Name x p) X.env := by rfl) (hline : (apos.endLine == pos.line) = true := by rfl) (he : starEach (e :: []) X.env = (false, eval e X.env) :: starEach [] X.env := by rfl) :
    Run X wd eS eB eT ρ (.Expr (.Call (.Attribute (.Name x p) "append" apos) [e] [] pos) py :: rest) (ra.bind fun d => (appR xs d).bind o) := fun F ad σ H Dn st q => by
  obtain ⟨v1, v2, v3⟩ := c.vis hx
  obtain ⟨ev, vs, e2, rr⟩ := st.sl i _ hρ
  refine bss (pss_cons (ps_expr (pe_bm PySem.F.plainAttrs_list PySem.F.slot_list_append PySem.F.type_list_append mt_append (pe_var (i := i) (c.at hN) v1 v2 v3) (pa_cons pe_b pa_nil he) hbase (by rw [he]; rfl) hline he rfl)) pss_b) ?_
  refine ⟨_, ev, .inl ⟨rfl, _, .of e2⟩, step_ev (o := fun d => (appR xs d).bind o) ha st q fun d v H' g r q => ?_⟩
  unfold appR at q
  rw [wp_bind] at q
  obtain ⟨hz, q⟩ := wp_ite q
  have st' := st.grow g
  obtain ⟨ev', vs', e2', rr'⟩ := st'.sl i _ hρ
  have ow : Own ρ i := ⟨_, hρ, rfl⟩
  refine ⟨ad i, vs', v, rfl, rfl, e2', by rw [rr'.length]; exact hz, ?_⟩
  refine hr _ F ad σ _ Dn (st'.mut ow rfl ⟨ev', _, upd_same, ?_⟩) (wp_adv (.mut st' ow) q)
  refine (rr'.append (.cons r .nil)).stay fun b u eb nb => ?_
  rw [upd_ne fun z => nb (by rw [z]; exact .inr ⟨i, ow, rfl⟩)]
  exact eb
theorem run_retO (c : Cd CX k wd N sc X) {i : Nat} {x : Str} {xs : List D} {t : T} (hx : visB sc x = true) (hN : N[i]? = some x) (hρ : ρ[i]? = some (.l xs)) (ht : ∀ (j : Nat) (s : Sl), (eT t)[j]? = some s → s.own = true → j ≠ i ∧ ρ[j]? = some s) :
    Run X wd eS eB eT ρ [.Return (some (.Name x p)) pos] (R.ret (.rt (.list xs) t)) := fun F ad σ H Dn st q => by
  obtain ⟨v1, v2, v3⟩ := c.vis hx
  obtain ⟨ev, vs, e2, rr⟩ := st.sl i _ hρ
  refine bss (pss_one (ps_ret (pe_var (i := i) (c.at hN) v1 v2 v3))) ⟨_, ev, ?_⟩
  have hl : Le (ρ.set i .no) ρ := ⟨by simp, fun j s e => by
    by_cases hj : j = i
    · subst hj
      by_cases hl : j < ρ.length
      · rw [List.getElem?_set_self hl] at e; cases e; exact .inl rfl
      · rw [List.getElem?_eq_none (by simpa using hl)] at e; cases e
    · rw [List.getElem?_set_ne (Ne.symm hj)] at e
      exact .inr (.inl e)⟩
  refine q _ ad (ρ.set i .no) σ H (.less fun _ => hl.own) (st.le hl) (fun j s e o => ?_) (.inl (.lst (.inl e2) (fun z => ?_) (rr.weak fun b => hl.ban)))
  · obtain ⟨h1, h2⟩ := ht j s e o
    rw [List.getElem?_set_ne (Ne.symm h1)]
    exact h2
  · rcases z with z | ⟨j, o, ej⟩
    · exact st.nf i ⟨_, hρ, rfl⟩ z
    · have hji := st.inj j i (hl.own o) ⟨_, hρ, rfl⟩ ej
      subst hji
      obtain ⟨s, e, q⟩ := o
      have hlen : j < ρ.length := by
        by_cases hl : j < ρ.length
        · exact hl
        · rw [List.getElem?_eq_none (by omega)] at hρ; cases hρ
      rw [List.getElem?_set_self hlen] at e
      cases e; cases q
/-! ### defs by their bodies -/
def l1 {α : Type} (f : D → R α) : List D → R α
  | [a] => f a
  | _ => bad
def l2 {α : Type} (f : D → D → R α) : List D → R α
  | [a, b] => f a b
  | _ => bad
def l3 {α : Type} (f : D → D → D → R α) : List D → R α
  | [a, b, c] => f a b c
  | _ => bad
def l4 {α : Type} (f : D → D → D → D → R α) : List D → R α
  | [a, b, c, e] => f a b c e
  | _ => bad
def l5 {α : Type} (f : D → D → D → D → D → R α) : List D → R α
  | [a, b, c, e, g] => f a b c e g
  | _ => bad
def l0 {α : Type} (f : R α) : List D → R α
  | [] => f
  | _ => bad
/-- a def of the program, as its callers see it -/
structure Df (P : Program) (w : World) (K : PySem.W.Frag) (mg : Str → Option Value) (base : Heap) (CX : CXT) (j : Nat) (x : Str) (sp : Sp) : Prop where
  ok : ∃ (f : Addr) (fd : FuncData) (ps : List Str), mg x = some (.ref f) ∧ PySem.W.keepIn K (.ref f) = true ∧ Binds K fd ps [] ∧ FnOk P w K mg base CX j f fd ps sp
theorem Df.dn (h : Df X.prog X.w X.K X.mg X.base CX k x sp) : Dn X CX k x sp := ⟨h.ok⟩
/-- a def, and its code object where it has a table -/
structure FunC (K : PySem.W.Frag) (x : Str) (st : Stmt) (f : Addr) (fd : FuncData) : Prop extends Fun K x x st f fd where
  code : ∀ c P, PySem.W.tabIn K x = some (c, P) → fd.code = .ref c
def CodeX (K : PySem.W.Frag) (x : Str) (X : Cx) : Prop := ∀ c P, PySem.W.tabIn K x = some (c, P) → X.env.code = .ref c
theorem FunC.okT {P : Program} {w : World} {K : PySem.W.Frag} {mg : Str → Option Value} {base : Heap} {x : Str} {st : Stmt} {f : Addr} {fd : FuncData} {N ps : List Str} {k : Nat} {sp : Sp} (F : FunC K x st f fd) (S : FnScope N ps (defScope st)) (len : ∀ vs H Q E, sp vs H Q E → vs.length = ps.length)
    (hbody : ∀ (cdv : Value), (∀ c P, PySem.W.tabIn K x = some (c, P) → cdv = .ref c) → ∀ (A : Around) (outer : List Env) (s : Shared) (H : Hp) (vs : List V) (Q : VK) (E : XK), Room k (A.deeper (envOfC x (defScope st) s.heap.objs.size f cdv)) → sp vs H Q E →
      ∃ t, PSs (cxOf CX0 P w K mg base N x (defScope st) f cdv A outer s H E).nox (defBody st) t ∧ t { nx := fun _ H' => Q .non H', rt := Q } (start N vs) H) : FnOk P w K mg base CX0 (k + 1) f fd ps sp := by
  have hc := F.code
  obtain ⟨oc, od, kV, doc, pm, an, cdv, ct, osl, rfl, lk, hcd⟩ := F.ex
  refine fn_of lk hcd S len fun A outer s H vs Q E hr hsp => ?_
  obtain ⟨t, h, q⟩ := hbody cdv hc A outer s H vs Q E hr hsp
  exact ⟨t, h.nox, q⟩
/-- where a def of the text stands -/
structure At (K : PySem.W.Frag) (mg : Str → Option Value) (x : Str) (st : Stmt) (ps : List Str) : Prop where
  ok : ∃ (f : Addr) (fd : FuncData), mg x = some (.ref f) ∧ PySem.W.keepIn K (.ref f) = true ∧ Binds K fd ps [] ∧ FunC K x st f fd
/-- the errors of a law: none leaves a def, or as CX says -/
def noE : Nat → Value × Option Str := fun _ => (.none, none)
def wd0 : Wd := ⟨none, fun _ _ _ => False, noE, fun _ => false, false, true⟩
instance : Calm wd0 := ⟨rfl⟩
end
section
variable {P : Program} {w : World} {K : PySem.W.Frag} {mg : Str → Option Value} {base : Heap} {N ps : List Str} {x : Str} {st : Stmt} {k : Nat}
def slots (N : List Str) (ds : List D) : List Sl := ds.map .d ++ List.replicate (N.length - ds.length) .no
theorem slots_own {ds : List D} {i : Nat} : ¬ Own (slots N ds) i := by
  rintro ⟨s, e, q⟩
  unfold slots at e
  by_cases h : i < ds.length
  · rw [List.getElem?_append_left (by simpa using h), List.getElem?_map] at e
    cases e2 : ds[i]? with
    | none => rw [e2] at e; cases e
    | some d => rw [e2] at e; cases e; cases q
  · rw [List.getElem?_append_right (by simpa using h), List.getElem?_replicate] at e
    split at e
    · cases e; cases q
    · cases e
theorem start_ok {B : Addr → Prop} {H : Hp} {vs : List V} {ds : List D} {ad : Nat → Addr} (nb : Fo K H B) (r : Reps K B H vs ds) (hl : ds.length ≤ N.length) : StOk K none B (slots N ds) (L2.start N vs) H ad := by
  have hvl := r.length
  refine ⟨?_, fun i j o => absurd o slots_own, fun i o => absurd o slots_own, nb.b, fun a l e => (by cases e), nb.t, fun i s e => ?_⟩
  · unfold L2.start slots
    simp only [List.length_append, List.length_map, List.length_replicate]
    omega
  · have hb : ∀ b, Ban B (slots N ds) ad b → B b := by
      rintro b (b | ⟨j, o, _⟩)
      · exact b
      · exact absurd o slots_own
    unfold slots at e
    by_cases h : i < ds.length
    · rw [List.getElem?_append_left (by simpa using h), List.getElem?_map] at e
      cases e2 : ds[i]? with
      | none => rw [e2] at e; cases e
      | some d =>
        rw [e2] at e
        cases e
        obtain ⟨v, ev, rv⟩ := r.get e2
        refine ⟨v, ?_, rv.weak hb⟩
        unfold L2.start
        rw [List.getElem?_append_left (by rw [List.length_map, hvl]; exact h), List.getElem?_map, ev]
        rfl
    · rw [List.getElem?_append_right (by simpa using h), List.getElem?_replicate] at e
      split at e
      · cases e; trivial
      · cases e
/-- a def that raises nothing, by its body -/
theorem df_of (A : At K mg x st ps) (S : FnScope N ps (defScope st)) {m : List D → R D} {T : Type} {eT : T → List Sl} {o : List D → R (Out Unit Empty T)}
    (hm : ∀ ds, ds.length = ps.length → m ds = endR0 (o ds)) {eN : Unit → List Sl} {eB : Empty → List Sl}
    (hrun : ∀ (X : Cx), Cd CX0 k wd0 N (defScope st) X → X.prog = P → X.w = w → X.K = K → X.mg = mg → X.base = base → CodeX K x X → ∀ ds, ds.length = ps.length → Run X wd0 eN eB eT (slots N ds) (defBody st) (o ds)) :
    Df P w K mg base CX0 (k + 1) x (spP K ps.length m) := by
  obtain ⟨f, fd, h1, h2, h3, F⟩ := A.ok
  refine ⟨f, fd, ps, h1, h2, h3, F.okT S (fun vs H Q E h => ?_) (fun cdv hcd A outer s H vs Q E hr h => ?_)⟩
  · obtain ⟨B, ds, _, hl, r, _⟩ := h
    rw [r.length, hl]
  · obtain ⟨B, ds, nb, hl, r, q⟩ := h
    refine ⟨_, pss_b, ?_⟩
    have hN : ps.length ≤ N.length := by have := congrArg List.length S.pre; rw [List.length_take] at this; omega
    have st0 := start_ok (K := K) (N := N) (ad := fun _ => 0) nb r (by omega)
    rw [hm ds hl] at q
    unfold endR0 at q
    rw [wp_bind] at q
    refine hrun ((cxOf CX0 P w K mg base N x (defScope st) f cdv A outer s H E).nox) ⟨⟨rfl, rfl, S.nd, fun _ => rfl, un_of hr, fun _ => hr, PassesOwn.never, pass0⟩, fun _ => rfl, S.kind, rfl, rfl⟩ rfl rfl rfl rfl rfl hcd ds hl B (fun _ => 0) _ H _ st0 (wp_mono (fun z q => ?_) (fun c x z => z.elim) q)
    · cases z with
      | nx u => exact fun ad' σ' H' a s' => q _ H' (fun b o e => (a.keep b o e has_none fun ⟨i, o, _⟩ => slots_own o).1) .non
      | bk b => exact b.elim
      | ct b => exact b.elim
      | rt d t => exact fun v ad' ρ' σ' H' a s' _ r => q v H' (fun b o e => (a.keep b o e has_none fun ⟨i, o, _⟩ => slots_own o).1) ((r.rep rfl).weak fun b => .inl)
/-! ### defs that draw -/
def wdD (a : Addr × Addr) : Wd := ⟨some a, fun _ _ _ => False, noE, fun _ => false, false, true⟩
instance {a : Addr × Addr} : Calm (wdD a) := ⟨rfl⟩
theorem noW0 : NoW wd0 := ⟨rfl, fun _ => rfl⟩
theorem noWD (a : Addr × Addr) : NoW (wdD a) := ⟨rfl, fun _ => rfl⟩
def slotsD (N : List Str) (ds : List D) : List Sl := .w :: (ds.map .d ++ List.replicate (N.length - 1 - ds.length) .no)
theorem slotsD_own {ds : List D} {i : Nat} : ¬ Own (slotsD N ds) i := by
  rintro ⟨s, e, q⟩
  unfold slotsD at e
  cases i with
  | zero => cases e; cases q
  | succ i =>
    rw [List.getElem?_cons_succ] at e
    by_cases h : i < ds.length
    · rw [List.getElem?_append_left (by simpa using h), List.getElem?_map] at e
      cases e2 : ds[i]? with
      | none => rw [e2] at e; cases e
      | some d => rw [e2] at e; cases e; cases q
    · rw [List.getElem?_append_right (by simpa using h), List.getElem?_replicate] at e
      split at e
      · cases e; cases q
      · cases e
theorem startD_ok {B : Addr → Prop} {H : Hp} {vs : List V} {ds : List D} {ad : Nat → Addr} {a l : Addr} (nb : Fo K H B) (ba : B a) (bl : B l) (ne : l ≠ a) (da : DrAt H a l) (r : Reps K B H vs ds) (hl : ds.length + 1 ≤ N.length) :
    StOk K (some (a, l)) B (slotsD N ds) (L2.start N (.ref a :: vs)) H ad := by
  have hvl := r.length
  refine ⟨?_, fun i j o => absurd o slotsD_own, fun i o => absurd o slotsD_own, nb.b, fun b l e => ?_, nb.t, fun i s e => ?_⟩
  · unfold L2.start slotsD
    simp only [List.length_append, List.length_map, List.length_replicate, List.length_cons]
    omega
  · cases e; exact ⟨ba, bl, ne, da⟩
  · have hb : ∀ b, Ban B (slotsD N ds) ad b → B b := by
      rintro b (b | ⟨j, o, _⟩)
      · exact b
      · exact absurd o slotsD_own
    unfold slotsD at e
    cases i with
    | zero => cases e; exact ⟨a, l, rfl, by unfold L2.start; rfl⟩
    | succ i =>
      rw [List.getElem?_cons_succ] at e
      by_cases h : i < ds.length
      · rw [List.getElem?_append_left (by simpa using h), List.getElem?_map] at e
        cases e2 : ds[i]? with
        | none => rw [e2] at e; cases e
        | some d =>
          rw [e2] at e
          cases e
          obtain ⟨v, ev, rv⟩ := r.get e2
          refine ⟨v, ?_, rv.weak hb⟩
          unfold L2.start
          rw [List.map_cons, List.cons_append, List.getElem?_cons_succ, List.getElem?_append_left (by rw [List.length_map, hvl]; exact h), List.getElem?_map, ev]
          rfl
      · rw [List.getElem?_append_right (by simpa using h), List.getElem?_replicate] at e
        split at e
        · cases e; trivial
        · cases e
theorem df_ofD (A : At K mg x st ps) (S : FnScope N ps (defScope st)) {m : List D → R D} {T : Type} {eT : T → List Sl} {n : Nat} (hn : ps.length = n + 1) {o : List D → R (Out Unit Empty T)}
    (hm : ∀ ds, ds.length = n → m ds = endR0 (o ds)) {eN : Unit → List Sl} {eB : Empty → List Sl}
    (hrun : ∀ (X : Cx) (a : Addr × Addr), Cd CX0 k (wdD a) N (defScope st) X → X.prog = P → X.w = w → X.K = K → X.mg = mg → X.base = base → ∀ ds, ds.length = n → Run X (wdD a) eN eB eT (slotsD N ds) (defBody st) (o ds)) :
    Df P w K mg base CX0 (k + 1) x (spD K n m) := by
  obtain ⟨f, fd, h1, h2, h3, F⟩ := A.ok
  refine ⟨f, fd, ps, h1, h2, h3, F.ok S (fun vs H Q E h => ?_) (fun cdv A outer s H vs Q E hr h => ?_)⟩
  · obtain ⟨B, a, l, vs', ds, _, rfl, _, _, _, _, hl, r, _⟩ := h
    rw [List.length_cons, r.length, hl, hn]
  · obtain ⟨B, a, l, vs', ds, nb, rfl, ba, bl, ne, da, hl, r, q⟩ := h
    refine ⟨_, pss_b, ?_⟩
    have hN : ps.length ≤ N.length := by have := congrArg List.length S.pre; rw [List.length_take] at this; omega
    have st0 := startD_ok (K := K) (N := N) (ad := fun _ => 0) nb ba bl ne da r (by omega)
    rw [hm ds hl] at q
    unfold endR0 at q
    rw [wp_bind] at q
    have gr : ∀ {ρ' : List Sl} {ad' : Nat → Addr} {H' : Hp}, Adv (wdD (a, l)) (slotsD N ds) (fun _ => 0) H ρ' ad' H' → Grow (some (a, l)) H H' := fun {ρ' ad' H'} z => ⟨fun b o e n => (z.keep b o e n fun ⟨i, o, _⟩ => slotsD_own o).1, z.draw⟩
    refine hrun ((cxOf CX0 P w K mg base N x (defScope st) f cdv A outer s H E).nox) (a, l) ⟨⟨rfl, rfl, S.nd, fun _ => rfl, un_of hr, fun _ => hr, PassesOwn.never, pass0⟩, fun _ => rfl, S.kind, rfl, rfl⟩ rfl rfl rfl rfl rfl ds hl B (fun _ => 0) _ H _ st0 (wp_mono (fun z q => ?_) (fun c x z => z.elim) q)
    cases z with
    | nx u => exact fun ad' σ' H' a s' => q _ H' (gr a) .non
    | bk b => exact b.elim
    | ct b => exact b.elim
    | rt d t => exact fun v ad' ρ' σ' H' a s' _ r => q v H' (gr a) ((r.rep rfl).weak fun b => .inl)
/-- a def of which nothing is known -/
theorem df_bad (A : At K mg x st ps) {j n : Nat} {m : List D → R D} (hm : ∀ ds, m ds = bad) : Df P w K mg base CX0 j x (spP K n m) := by
  obtain ⟨f, fd, h1, h2, h3, F⟩ := A.ok
  have no : ∀ {vs H Q E}, ¬ spP K n m vs H Q E := fun {vs H Q E} ⟨B, ds, _, _, _, q⟩ => by rw [hm] at q; exact q
  exact ⟨f, fd, ps, h1, h2, h3, fun vs H Q E h => absurd h no, fun A outer s H args us vs Q E _ _ _ _ h => absurd h no⟩
theorem df_badD (A : At K mg x st ps) {j n : Nat} {m : List D → R D} (hm : ∀ ds, m ds = bad) : Df P w K mg base CX0 j x (spD K n m) := by
  obtain ⟨f, fd, h1, h2, h3, F⟩ := A.ok
  have no : ∀ {vs H Q E}, ¬ spD K n m vs H Q E := fun {vs H Q E} ⟨B, a, l, vs', ds, _, _, _, _, _, _, _, _, q⟩ => by rw [hm] at q; exact q
  exact ⟨f, fd, ps, h1, h2, h3, fun vs H Q E h => absurd h no, fun A outer s H args us vs Q E _ _ _ _ h => absurd h no⟩
end
/-- the built-ins that a law's module leaves as they are -/
structure Bt (mg : Str → Option Value) : Prop where
  len : mg "len" = none
  range : mg "range" = none
  tuple : mg "tuple" = none
  list : mg "list" = none
  sum : mg "sum" = none
  max : mg "max" = none
  min : mg "min" = none
  abs : mg "abs" = none
  int : mg "int" = none
  str : mg "str" = none
  all : mg "all" = none
  any : mg "any" = none
  isinstance : mg "isinstance" = none
  bool : mg "bool" = none
  sorted : mg "sorted" = none
section
variable {CX : CXT} {k : Nat} {wd : Wd} {N : List Str} {sc : Scope} {X : Cx} {ρ : List Sl} {e a b : Expr} {pos p : Pos} {ra rb : R D}
theorem bv_len : bootBuiltins "len" = some (.builtin "len") := by decide +kernel
theorem bv_tuple : bootBuiltins "tuple" = some (.type "tuple") := by decide +kernel
theorem bv_list : bootBuiltins "list" = some (.type "list") := by decide +kernel
theorem bv_sum : bootBuiltins "sum" = some (.builtin "sum") := by decide +kernel
theorem bv_max : bootBuiltins "max" = some (.builtin "max") := by decide +kernel
theorem bv_min : bootBuiltins "min" = some (.builtin "min") := by decide +kernel
theorem bv_abs : bootBuiltins "abs" = some (.builtin "abs") := by decide +kernel
theorem bv_int : bootBuiltins "int" = some (.type "int") := by decide +kernel
theorem bv_str : bootBuiltins "str" = some (.type "str") := by decide +kernel
theorem bv_bool : bootBuiltins "bool" = some (.type "bool") := by decide +kernel
theorem bv_all : bootBuiltins "all" = some (.builtin "all") := by decide +kernel
theorem bv_any : bootBuiltins "any" = some (.builtin "any") := by decide +kernel
theorem bv_isi : bootBuiltins "isinstance" = some (.builtin "isinstance") := by decide +kernel
theorem ev_len (c : Cw CX k wd N sc X) (B : Bt X.mg) (hg : glB sc "len" = true) (ha : EvB X wd ρ a ra) (he : Plain X a := by exact fun _ => rfl) : Ev X wd ρ (.Call (.Name "len" p) [a] [] pos) (ra.bind fun x => lenR x) := ev_b1 c call_len calS_len hg B.len bv_len ha he
theorem ev_tuple (c : Cw CX k wd N sc X) (B : Bt X.mg) (hg : glB sc "tuple" = true) (ha : EvB X wd ρ a ra) (he : Plain X a := by exact fun _ => rfl) : Ev X wd ρ (.Call (.Name "tuple" p) [a] [] pos) (ra.bind fun x => tupleR x) := ev_t1 c call_tuple_of calS_tuple hg B.tuple bv_tuple ha he
theorem ev_list (c : Cw CX k wd N sc X) (B : Bt X.mg) (hg : glB sc "list" = true) (ha : EvB X wd ρ a ra) (he : Plain X a := by exact fun _ => rfl) : Ev X wd ρ (.Call (.Name "list" p) [a] [] pos) (ra.bind fun x => listR x) := ev_t1 c call_list_of calS_list hg B.list bv_list ha he
theorem ev_sum [Calm wd] (c : Cw CX k wd N sc X) (B : Bt X.mg) (hg : glB sc "sum" = true) (ha : EvB X wd ρ a ra) (he : Plain X a := by exact fun _ => rfl) : Ev X wd ρ (.Call (.Name "sum" p) [a] [] pos) (ra.bind fun x => sumR x) := ev_b1 c (cr_sumT c.calm) calS_sum hg B.sum bv_sum ha he
theorem ev_all [Calm wd] (c : Cw CX k wd N sc X) (B : Bt X.mg) (hg : glB sc "all" = true) (ha : EvB X wd ρ a ra) (he : Plain X a := by exact fun _ => rfl) : Ev X wd ρ (.Call (.Name "all" p) [a] [] pos) (ra.bind fun x => allR x) := ev_b1 c (cr_all c.calm) calS_all hg B.all bv_all ha he
theorem ev_any [Calm wd] (c : Cw CX k wd N sc X) (B : Bt X.mg) (hg : glB sc "any" = true) (ha : EvB X wd ρ a ra) (he : Plain X a := by exact fun _ => rfl) : Ev X wd ρ (.Call (.Name "any" p) [a] [] pos) (ra.bind fun x => anyR x) := ev_b1 c (cr_any c.calm) calS_any hg B.any bv_any ha he
theorem ev_abs (c : Cw CX k wd N sc X) (B : Bt X.mg) (hg : glB sc "abs" = true) (ha : EvB X wd ρ a ra) (he : Plain X a := by exact fun _ => rfl) : Ev X wd ρ (.Call (.Name "abs" p) [a] [] pos) (ra.bind fun x => absR x) := ev_b1 c call_abs calS_abs hg B.abs bv_abs ha he
theorem ev_toint (c : Cw CX k wd N sc X) (B : Bt X.mg) (hg : glB sc "int" = true) (ha : EvB X wd ρ a ra) (he : Plain X a := by exact fun _ => rfl) : Ev X wd ρ (.Call (.Name "int" p) [a] [] pos) (ra.bind fun x => intR x) := ev_t1 c call_int1 calS_int hg B.int bv_int ha he
theorem ev_max [Calm wd] (c : Cw CX k wd N sc X) (B : Bt X.mg) (hg : glB sc "max" = true) (ha : EvB X wd ρ a ra) (hb : EvB X wd ρ b rb) (he : Plain X a := by exact fun _ => rfl) (he2 : Plain X b := by exact fun _ => rfl) : Ev X wd ρ (.Call (.Name "max" p) [a, b] [] pos) (ra.bind fun x => rb.bind fun y => maxR x y) := ev_b2 c (call_max2 c.calm) calS_max hg B.max bv_max ha hb he he2
theorem ev_min [Calm wd] (c : Cw CX k wd N sc X) (B : Bt X.mg) (hg : glB sc "min" = true) (ha : EvB X wd ρ a ra) (hb : EvB X wd ρ b rb) (he : Plain X a := by exact fun _ => rfl) (he2 : Plain X b := by exact fun _ => rfl) : Ev X wd ρ (.Call (.Name "min" p) [a, b] [] pos) (ra.bind fun x => rb.bind fun y => minR x y) := ev_b2 c (call_min2 c.calm) calS_min hg B.min bv_min ha hb he he2
theorem evi_r1 (c : Cw CX k wd N sc X) (B : Bt X.mg) {tg : Expr} (hg : glB sc "range" = true) (ha : EvB X wd ρ a ra) (he : Plain X a := by exact fun _ => rfl) : EvI X wd ρ tg (.Call (.Name "range" p) [a] [] pos) (ra.bind fun x => rng1R x) := evi_rng1 c hg B.range ha he
theorem evi_r2 (c : Cw CX k wd N sc X) (B : Bt X.mg) {tg : Expr} (hg : glB sc "range" = true) (ha : EvB X wd ρ a ra) (hb : EvB X wd ρ b rb) (he : Plain X a := by exact fun _ => rfl) (he2 : Plain X b := by exact fun _ => rfl) : EvI X wd ρ tg (.Call (.Name "range" p) [a, b] [] pos) (ra.bind fun x => rb.bind fun y => rng2R x y) := evi_rng2 c hg B.range ha hb he he2
end
end Pu
/-! Pw: the rules as the printer uses them. -/
namespace Pu
open PySem PySem.Spec PyProof.Rows L2 R
theorem ht0 {ρ : List Sl} : ∀ (i : Nat) (s : Sl), (([] : List Sl)[i]? = some s) → s.own = true → ρ[i]? = some s := fun i s h => by simp at h
theorem ht0' {ρ : List Sl} {k : Nat} : ∀ (i : Nat) (s : Sl), (([] : List Sl)[i]? = some s) → s.own = true → i ≠ k ∧ ρ[i]? = some s := fun i s h => by simp at h
theorem cx0F : ∀ (outer : List Env) (H : Hp) (s : Shared) (e : Value) (s' : Shared), CX0 outer H s (fun _ _ _ => False) e s' → False := fun _ _ _ _ _ h => h
theorem NoW.calm {wd : Wd} (h : NoW wd) : NoW wd.calm := ⟨rfl, h.x⟩
section
variable {CX : CXT} {k : Nat} {wd : Wd} {N : List Str} {sc : Scope} {X : Cx} {ρ : List Sl} {e a b c0 a1 a2 a3 a4 a5 a6 : Expr} {pos p : Pos} {ra rb rc r1 r2 r3 r4 r5 r6 : R D}
theorem szk {n : Nat} (h : n ≤ 1000) : n ≤ sizeLine := Nat.le_of_lt (small1000 h)
theorem ev_tup0 {x1 : Nat} : Ev X wd ρ (.Tuple [] x1 pos) (R.ret (.tuple [])) := (ev_tup eva_nil).eq (by simp)
theorem ev_tup1 {x1 : Nat} (h1 : Ev X wd ρ a1 r1) (s1 : Plain X a1 := by exact fun _ => rfl) : Ev X wd ρ (.Tuple [a1] x1 pos) (r1.bind fun x => R.ret (.tuple [x])) :=
  (ev_tup (eva_cons h1 eva_nil (s1 _))).eq (by simp [bind_assoc, szk])
theorem ev_tup2 {x1 : Nat} (h1 : Ev X wd ρ a1 r1) (h2 : Ev X wd ρ a2 r2) (s1 : Plain X a1 := by exact fun _ => rfl) (s2 : Plain X a2 := by exact fun _ => rfl) : Ev X wd ρ (.Tuple [a1, a2] x1 pos) (r1.bind fun x => r2.bind fun y => R.ret (.tuple [x, y])) :=
  (ev_tup (eva_cons h1 (eva_cons h2 eva_nil (s2 _)) (s1 _))).eq (by simp [bind_assoc, szk])
theorem ev_tup3 {x1 : Nat} (h1 : Ev X wd ρ a1 r1) (h2 : Ev X wd ρ a2 r2) (h3 : Ev X wd ρ a3 r3) (s1 : Plain X a1 := by exact fun _ => rfl) (s2 : Plain X a2 := by exact fun _ => rfl) (s3 : Plain X a3 := by exact fun _ => rfl) :
    Ev X wd ρ (.Tuple [a1, a2, a3] x1 pos) (r1.bind fun x => r2.bind fun y => r3.bind fun z => R.ret (.tuple [x, y, z])) :=
  (ev_tup (eva_cons h1 (eva_cons h2 (eva_cons h3 eva_nil (s3 _)) (s2 _)) (s1 _))).eq (by simp [bind_assoc, szk])
theorem ev_tup4 {x1 : Nat} (h1 : Ev X wd ρ a1 r1) (h2 : Ev X wd ρ a2 r2) (h3 : Ev X wd ρ a3 r3) (h4 : Ev X wd ρ a4 r4) (s1 : Plain X a1 := by exact fun _ => rfl) (s2 : Plain X a2 := by exact fun _ => rfl) (s3 : Plain X a3 := by exact fun _ => rfl) (s4 : Plain X a4 := by exact fun _ => rfl) :
    Ev X wd ρ (.Tuple [a1, a2, a3, a4] x1 pos) (r1.bind fun x => r2.bind fun y => r3.bind fun z => r4.bind fun w => R.ret (.tuple [x, y, z, w])) :=
  (ev_tup (eva_cons h1 (eva_cons h2 (eva_cons h3 (eva_cons h4 eva_nil (s4 _)) (s3 _)) (s2 _)) (s1 _))).eq (by simp [bind_assoc, szk])
theorem ev_tup5 {x1 : Nat} (h1 : Ev X wd ρ a1 r1) (h2 : Ev X wd ρ a2 r2) (h3 : Ev X wd ρ a3 r3) (h4 : Ev X wd ρ a4 r4) (h5 : Ev X wd ρ a5 r5) (s1 : Plain X a1 := by exact fun _ => rfl) (s2 : Plain X a2 := by exact fun _ => rfl) (s3 : Plain X a3 := by exact fun _ => rfl) (s4 : Plain X a4 := by exact fun _ => rfl) (s5 : Plain X a5 := by exact fun _ => rfl) :
    Ev X wd ρ (.Tuple [a1, a2, a3, a4, a5] x1 pos) (r1.bind fun x => r2.bind fun y => r3.bind fun z => r4.bind fun w => r5.bind fun u => R.ret (.tuple [x, y, z, w, u])) :=
  (ev_tup (eva_cons h1 (eva_cons h2 (eva_cons h3 (eva_cons h4 (eva_cons h5 eva_nil (s5 _)) (s4 _)) (s3 _)) (s2 _)) (s1 _))).eq (by simp [bind_assoc, szk])
theorem EvL.eq {r r' : R (List D)} (h : EvL X wd ρ e r) (q : r = r') : EvL X wd ρ e r' := q ▸ h
theorem evl_nil : EvL X wd ρ (.List [] pos) (R.ret []) := (evl_lst eva_nil).eq (by simp)
theorem eva_consP {e : Expr} {es : List Expr} {r : R D} {rs : R (List D)} (h : Ev X wd ρ e r) (t : EvA X wd ρ es rs) (s : Plain X e := by exact fun _ => rfl) : EvA X wd ρ (e :: es) (r.bind fun d => rs.bind fun ds => R.ret (d :: ds)) := eva_cons h t (s _)
theorem evl_lst1 (h1 : Ev X wd ρ a1 r1) (s1 : Plain X a1 := by exact fun _ => rfl) : EvL X wd ρ (.List [a1] pos) (r1.bind fun x => R.ret [x]) :=
  (evl_lst (eva_cons h1 eva_nil (s1 _))).eq (by simp [bind_assoc, szk])
theorem evl_lst2 (h1 : Ev X wd ρ a1 r1) (h2 : Ev X wd ρ a2 r2) (s1 : Plain X a1 := by exact fun _ => rfl) (s2 : Plain X a2 := by exact fun _ => rfl) : EvL X wd ρ (.List [a1, a2] pos) (r1.bind fun x => r2.bind fun y => R.ret [x, y]) :=
  (evl_lst (eva_cons h1 (eva_cons h2 eva_nil (s2 _)) (s1 _))).eq (by simp [bind_assoc, szk])
theorem evl_lst3 (h1 : Ev X wd ρ a1 r1) (h2 : Ev X wd ρ a2 r2) (h3 : Ev X wd ρ a3 r3) (s1 : Plain X a1 := by exact fun _ => rfl) (s2 : Plain X a2 := by exact fun _ => rfl) (s3 : Plain X a3 := by exact fun _ => rfl) :
    EvL X wd ρ (.List [a1, a2, a3] pos) (r1.bind fun x => r2.bind fun y => r3.bind fun z => R.ret [x, y, z]) :=
  (evl_lst (eva_cons h1 (eva_cons h2 (eva_cons h3 eva_nil (s3 _)) (s2 _)) (s1 _))).eq (by simp [bind_assoc, szk])
theorem evl_lst4 (h1 : Ev X wd ρ a1 r1) (h2 : Ev X wd ρ a2 r2) (h3 : Ev X wd ρ a3 r3) (h4 : Ev X wd ρ a4 r4) (s1 : Plain X a1 := by exact fun _ => rfl) (s2 : Plain X a2 := by exact fun _ => rfl) (s3 : Plain X a3 := by exact fun _ => rfl) (s4 : Plain X a4 := by exact fun _ => rfl) :
    EvL X wd ρ (.List [a1, a2, a3, a4] pos) (r1.bind fun x => r2.bind fun y => r3.bind fun z => r4.bind fun w => R.ret [x, y, z, w]) :=
  (evl_lst (eva_cons h1 (eva_cons h2 (eva_cons h3 (eva_cons h4 eva_nil (s4 _)) (s3 _)) (s2 _)) (s1 _))).eq (by simp [bind_assoc, szk])
theorem evl_lst5 (h1 : Ev X wd ρ a1 r1) (h2 : Ev X wd ρ a2 r2) (h3 : Ev X wd ρ a3 r3) (h4 : Ev X wd ρ a4 r4) (h5 : Ev X wd ρ a5 r5) (s1 : Plain X a1 := by exact fun _ => rfl) (s2 : Plain X a2 := by exact fun _ => rfl) (s3 : Plain X a3 := by exact fun _ => rfl) (s4 : Plain X a4 := by exact fun _ => rfl) (s5 : Plain X a5 := by exact fun _ => rfl) :
    EvL X wd ρ (.List [a1, a2, a3, a4, a5] pos) (r1.bind fun x => r2.bind fun y => r3.bind fun z => r4.bind fun w => r5.bind fun u => R.ret [x, y, z, w, u]) :=
  (evl_lst (eva_cons h1 (eva_cons h2 (eva_cons h3 (eva_cons h4 (eva_cons h5 eva_nil (s5 _)) (s4 _)) (s3 _)) (s2 _)) (s1 _))).eq (by simp [bind_assoc, szk])
theorem evl_lst6 (h1 : Ev X wd ρ a1 r1) (h2 : Ev X wd ρ a2 r2) (h3 : Ev X wd ρ a3 r3) (h4 : Ev X wd ρ a4 r4) (h5 : Ev X wd ρ a5 r5) (h6 : Ev X wd ρ a6 r6) (s1 : Plain X a1 := by exact fun _ => rfl) (s2 : Plain X a2 := by exact fun _ => rfl) (s3 : Plain X a3 := by exact fun _ => rfl) (s4 : Plain X a4 := by exact fun _ => rfl) (s5 : Plain X a5 := by exact fun _ => rfl) (s6 : Plain X a6 := by exact fun _ => rfl) :
    EvL X wd ρ (.List [a1, a2, a3, a4, a5, a6] pos) (r1.bind fun x => r2.bind fun y => r3.bind fun z => r4.bind fun w => r5.bind fun u => r6.bind fun v => R.ret [x, y, z, w, u, v]) :=
  (evl_lst (eva_cons h1 (eva_cons h2 (eva_cons h3 (eva_cons h4 (eva_cons h5 (eva_cons h6 eva_nil (s6 _)) (s5 _)) (s4 _)) (s3 _)) (s2 _)) (s1 _))).eq (by simp [bind_assoc, szk])
/-- list + list, a new list -/
def catR : D → D → R (List D)
  | .list xs, .list ys => if xs.length + ys.length ≤ sizeLine then R.ret (xs ++ ys) else bad
  | _, _ => bad
theorem evl_cat (ha : EvB X wd ρ a ra) (hb : EvB X wd ρ b rb) : EvL X wd ρ (.BinOp a .Add b pos) (ra.bind fun x => rb.bind fun y => catR x y) := fun F ad σ H Q s q => by
  refine be (pe_op op_catR pe_b pe_b) ?_
  rw [wp_bind] at q
  refine ha F ad σ H _ s (wp_mono (fun d q v H1 g1 r1 => ?_) (fun _ _ z => z) q)
  rw [wp_bind] at q
  have s1 := s.grow g1
  refine hb F ad σ H1 _ s1 (wp_mono (fun d2 q v2 H2 g2 r2 => ?_) (fun _ _ z => z.grow g1) q)
  have s2 := s1.grow g2
  cases d with
  | list xs =>
    cases d2 with
    | list ys =>
      obtain ⟨h, q⟩ := wp_ite q
      obtain ⟨l1, v1, rfl, e1, t1⟩ := (r1.stay s1 g2).list
      obtain ⟨l2, v2, rfl, e2, t2⟩ := r2.list
      refine ⟨l1, l2, v1, v2, rfl, rfl, e1, e2, by rw [t1.length, t2.length]; exact h, fun p hp => ?_⟩
      refine q _ _ _ (g1.trans (g2.trans (Grow.same (same_upd hp)))) (free_grow s (g1.trans g2) hp) upd_same (((t1.append t2).ban fun b z => ?_).stay (same_stay (same_upd hp)))
      rcases z with z | rfl
      · exact .inl z
      · exact .inr hp
    | _ => exact q.elim
  | _ => cases d2 <;> exact q.elim
/-- list(a), a new list -/
def listL : D → R (List D)
  | .list xs => R.ret xs
  | .tuple xs => R.ret xs
  | _ => bad
theorem evl_list (c : Cw CX k wd N sc X) (B : Bt X.mg) (hg : glB sc "list" = true) (ha : EvB X wd ρ a ra) (he : Plain X a := by exact fun _ => rfl) : EvL X wd ρ (.Call (.Name "list" p) [a] [] pos) (ra.bind fun x => listL x) := fun F ad σ H Q s q => by
  refine be (pe_callTy call_list_of (c.gl hg).1 B.list bv_list (pa_cons pe_b pa_nil (he [])) (c.gl hg).2.2 (c.gl hg).2.1 (he []) rfl) ?_
  rw [wp_bind] at q
  refine ha F ad σ H _ s (wp_mono (fun d q v H1 g1 r1 => ?_) (fun _ _ z => z) q)
  have nb : ∀ {p : Addr} {vs : List V} {ds : List D}, H1 p = none → Reps X.K (Ban F ρ ad) H1 vs ds → Reps X.K (fun b => Ban F ρ ad b ∨ b = p) (upd H1 p (.lst vs)) vs ds := fun {p vs ds} hp r => (r.ban fun b z => by
    rcases z with z | rfl
    · exact .inl z
    · exact .inr hp).stay (same_stay (same_upd hp))
  cases d with
  | list xs =>
    obtain ⟨l1, v1, rfl, e1, t1⟩ := r1.list
    exact ⟨l1, v1, rfl, .inl (.inl e1), fun p hp => q _ _ _ (g1.trans (Grow.same (same_upd hp))) (free_grow s g1 hp) upd_same (nb hp t1)⟩
  | tuple xs =>
    obtain ⟨l1, v1, rfl, e1, t1⟩ := r1.tuple
    exact ⟨l1, v1, rfl, .inr e1.sq, fun p hp => q _ _ _ (g1.trans (Grow.same (same_upd hp))) (free_grow s g1 hp) upd_same (nb hp t1)⟩
  | _ => exact q.elim
/-- calls of defs by the number of arguments -/
theorem l1n {α : Type} {f : D → R α} : ∀ ds : List D, ds.length ≠ 1 → l1 f ds = bad := fun ds h => by
  match ds, h with
  | [], _ => rfl
  | [a], h => exact absurd rfl h
  | _ :: _ :: _, _ => rfl
theorem l2n {α : Type} {f : D → D → R α} : ∀ ds : List D, ds.length ≠ 2 → l2 f ds = bad := fun ds h => by
  match ds, h with
  | [], _ => rfl
  | [a], _ => rfl
  | [_, _], h => exact absurd rfl h
  | _ :: _ :: _ :: _, _ => rfl
theorem l3n {α : Type} {f : D → D → D → R α} : ∀ ds : List D, ds.length ≠ 3 → l3 f ds = bad := fun ds h => by
  match ds, h with
  | [], _ => rfl
  | [a], _ => rfl
  | [_, _], _ => rfl
  | [_, _, _], h => exact absurd rfl h
  | _ :: _ :: _ :: _ :: _, _ => rfl
theorem l4n {α : Type} {f : D → D → D → D → R α} : ∀ ds : List D, ds.length ≠ 4 → l4 f ds = bad := fun ds h => by
  match ds, h with
  | [], _ => rfl
  | [a], _ => rfl
  | [_, _], _ => rfl
  | [_, _, _], _ => rfl
  | [_, _, _, _], h => exact absurd rfl h
  | _ :: _ :: _ :: _ :: _ :: _, _ => rfl
theorem l5n {α : Type} {f : D → D → D → D → D → R α} : ∀ ds : List D, ds.length ≠ 5 → l5 f ds = bad := fun ds h => by
  match ds, h with
  | [], _ => rfl
  | [a], _ => rfl
  | [_, _], _ => rfl
  | [_, _, _], _ => rfl
  | [_, _, _, _], _ => rfl
  | [_, _, _, _, _], h => exact absurd rfl h
  | _ :: _ :: _ :: _ :: _ :: _ :: _, _ => rfl
theorem l0n {α : Type} {f : R α} : ∀ ds : List D, ds.length ≠ 0 → l0 f ds = bad := fun ds h => by
  match ds, h with
  | [], h => exact absurd rfl h
  | _ :: _, _ => rfl
variable {x : Str} {j : Nat}
theorem ev_call1 [Calm wd] (c : Cw CX k wd N sc X) (W : NoW wd) {m : D → R D} (G : Df X.prog X.w X.K X.mg X.base CX j x (spP X.K 1 (l1 m))) (hj : j ≤ k) (hg : glB sc x = true) (h1 : Ev X wd ρ a1 r1) (s1 : Plain X a1 := by exact fun _ => rfl) :
    Ev X wd ρ (.Call (.Name x p) [a1] [] pos) (r1.bind fun x => m x) := (ev_call c W G.dn hj hg (eva_cons h1 eva_nil (s1 _)) l1n (s1 _) rfl).eq (by simp [bind_assoc, l1])
theorem ev_call2 [Calm wd] (c : Cw CX k wd N sc X) (W : NoW wd) {m : D → D → R D} (G : Df X.prog X.w X.K X.mg X.base CX j x (spP X.K 2 (l2 m))) (hj : j ≤ k) (hg : glB sc x = true) (h1 : Ev X wd ρ a1 r1) (h2 : Ev X wd ρ a2 r2) (s1 : Plain X a1 := by exact fun _ => rfl) (s2 : Plain X a2 := by exact fun _ => rfl) :
    Ev X wd ρ (.Call (.Name x p) [a1, a2] [] pos) (r1.bind fun x => r2.bind fun y => m x y) := (ev_call c W G.dn hj hg (eva_cons h1 (eva_cons h2 eva_nil (s2 _)) (s1 _)) l2n (s1 _) (by rw [s2]; rfl)).eq (by simp [bind_assoc, l2])
theorem ev_call3 [Calm wd] (c : Cw CX k wd N sc X) (W : NoW wd) {m : D → D → D → R D} (G : Df X.prog X.w X.K X.mg X.base CX j x (spP X.K 3 (l3 m))) (hj : j ≤ k) (hg : glB sc x = true) (h1 : Ev X wd ρ a1 r1) (h2 : Ev X wd ρ a2 r2) (h3 : Ev X wd ρ a3 r3) (s1 : Plain X a1 := by exact fun _ => rfl) (s2 : Plain X a2 := by exact fun _ => rfl) (s3 : Plain X a3 := by exact fun _ => rfl) :
    Ev X wd ρ (.Call (.Name x p) [a1, a2, a3] [] pos) (r1.bind fun x => r2.bind fun y => r3.bind fun z => m x y z) := (ev_call c W G.dn hj hg (eva_cons h1 (eva_cons h2 (eva_cons h3 eva_nil (s3 _)) (s2 _)) (s1 _)) l3n (s1 _) (by rw [s2, s3]; rfl)).eq (by simp [bind_assoc, l3])
theorem ev_call4 [Calm wd] (c : Cw CX k wd N sc X) (W : NoW wd) {m : D → D → D → D → R D} (G : Df X.prog X.w X.K X.mg X.base CX j x (spP X.K 4 (l4 m))) (hj : j ≤ k) (hg : glB sc x = true) (h1 : Ev X wd ρ a1 r1) (h2 : Ev X wd ρ a2 r2) (h3 : Ev X wd ρ a3 r3) (h4 : Ev X wd ρ a4 r4) (s1 : Plain X a1 := by exact fun _ => rfl) (s2 : Plain X a2 := by exact fun _ => rfl) (s3 : Plain X a3 := by exact fun _ => rfl) (s4 : Plain X a4 := by exact fun _ => rfl) :
    Ev X wd ρ (.Call (.Name x p) [a1, a2, a3, a4] [] pos) (r1.bind fun x => r2.bind fun y => r3.bind fun z => r4.bind fun w => m x y z w) := (ev_call c W G.dn hj hg (eva_cons h1 (eva_cons h2 (eva_cons h3 (eva_cons h4 eva_nil (s4 _)) (s3 _)) (s2 _)) (s1 _)) l4n (s1 _) (by rw [s2, s3, s4]; rfl)).eq (by simp [bind_assoc, l4])
theorem ev_call5 [Calm wd] (c : Cw CX k wd N sc X) (W : NoW wd) {m : D → D → D → D → D → R D} (G : Df X.prog X.w X.K X.mg X.base CX j x (spP X.K 5 (l5 m))) (hj : j ≤ k) (hg : glB sc x = true) (h1 : Ev X wd ρ a1 r1) (h2 : Ev X wd ρ a2 r2) (h3 : Ev X wd ρ a3 r3) (h4 : Ev X wd ρ a4 r4) (h5 : Ev X wd ρ a5 r5) (s1 : Plain X a1 := by exact fun _ => rfl) (s2 : Plain X a2 := by exact fun _ => rfl) (s3 : Plain X a3 := by exact fun _ => rfl) (s4 : Plain X a4 := by exact fun _ => rfl) (s5 : Plain X a5 := by exact fun _ => rfl) :
    Ev X wd ρ (.Call (.Name x p) [a1, a2, a3, a4, a5] [] pos) (r1.bind fun x => r2.bind fun y => r3.bind fun z => r4.bind fun w => r5.bind fun u => m x y z w u) := (ev_call c W G.dn hj hg (eva_cons h1 (eva_cons h2 (eva_cons h3 (eva_cons h4 (eva_cons h5 eva_nil (s5 _)) (s4 _)) (s3 _)) (s2 _)) (s1 _)) l5n (s1 _) (by rw [s2, s3, s4, s5]; rfl)).eq (by simp [bind_assoc, l5])
variable {y : Str} {i : Nat} {py : Pos}
theorem ev_callD0 [Calm wd] (c : Cw CX k wd N sc X) (W : NoW wd) {m : R D} (G : Df X.prog X.w X.K X.mg X.base CX j x (spD X.K 0 (l0 m))) (hj : j ≤ k) (hg : glB sc x = true) (hv : visB sc y = true) (hN : N[i]? = some y) (hρ : ρ[i]? = some .w) :
    Ev X wd ρ (.Call (.Name x p) [.Name y py] [] pos) m := (ev_callD c W G.dn hj hg hv hN hρ eva_nil l0n).eq (by simp [bind_assoc, l0])
theorem ev_callD1 [Calm wd] (c : Cw CX k wd N sc X) (W : NoW wd) {m : D → R D} (G : Df X.prog X.w X.K X.mg X.base CX j x (spD X.K 1 (l1 m))) (hj : j ≤ k) (hg : glB sc x = true) (hv : visB sc y = true) (hN : N[i]? = some y) (hρ : ρ[i]? = some .w) (h1 : Ev X wd ρ a1 r1) (s1 : Plain X a1 := by exact fun _ => rfl) :
    Ev X wd ρ (.Call (.Name x p) [.Name y py, a1] [] pos) (r1.bind fun x => m x) := (ev_callD c W G.dn hj hg hv hN hρ (eva_cons h1 eva_nil (s1 _)) l1n (by rw [s1]; rfl)).eq (by simp [bind_assoc, l1])
theorem ev_callD2 [Calm wd] (c : Cw CX k wd N sc X) (W : NoW wd) {m : D → D → R D} (G : Df X.prog X.w X.K X.mg X.base CX j x (spD X.K 2 (l2 m))) (hj : j ≤ k) (hg : glB sc x = true) (hv : visB sc y = true) (hN : N[i]? = some y) (hρ : ρ[i]? = some .w) (h1 : Ev X wd ρ a1 r1) (h2 : Ev X wd ρ a2 r2) (s1 : Plain X a1 := by exact fun _ => rfl) (s2 : Plain X a2 := by exact fun _ => rfl) :
    Ev X wd ρ (.Call (.Name x p) [.Name y py, a1, a2] [] pos) (r1.bind fun x => r2.bind fun y => m x y) := (ev_callD c W G.dn hj hg hv hN hρ (eva_cons h1 (eva_cons h2 eva_nil (s2 _)) (s1 _)) l2n (by rw [s1, s2]; rfl)).eq (by simp [bind_assoc, l2])
theorem ev_callD3 [Calm wd] (c : Cw CX k wd N sc X) (W : NoW wd) {m : D → D → D → R D} (G : Df X.prog X.w X.K X.mg X.base CX j x (spD X.K 3 (l3 m))) (hj : j ≤ k) (hg : glB sc x = true) (hv : visB sc y = true) (hN : N[i]? = some y) (hρ : ρ[i]? = some .w) (h1 : Ev X wd ρ a1 r1) (h2 : Ev X wd ρ a2 r2) (h3 : Ev X wd ρ a3 r3) (s1 : Plain X a1 := by exact fun _ => rfl) (s2 : Plain X a2 := by exact fun _ => rfl) (s3 : Plain X a3 := by exact fun _ => rfl) :
    Ev X wd ρ (.Call (.Name x p) [.Name y py, a1, a2, a3] [] pos) (r1.bind fun x => r2.bind fun y => r3.bind fun z => m x y z) := (ev_callD c W G.dn hj hg hv hN hρ (eva_cons h1 (eva_cons h2 (eva_cons h3 eva_nil (s3 _)) (s2 _)) (s1 _)) l3n (by rw [s1, s2, s3]; rfl)).eq (by simp [bind_assoc, l3])
theorem ev_callD4 [Calm wd] (c : Cw CX k wd N sc X) (W : NoW wd) {m : D → D → D → D → R D} (G : Df X.prog X.w X.K X.mg X.base CX j x (spD X.K 4 (l4 m))) (hj : j ≤ k) (hg : glB sc x = true) (hv : visB sc y = true) (hN : N[i]? = some y) (hρ : ρ[i]? = some .w) (h1 : Ev X wd ρ a1 r1) (h2 : Ev X wd ρ a2 r2) (h3 : Ev X wd ρ a3 r3) (h4 : Ev X wd ρ a4 r4) (s1 : Plain X a1 := by exact fun _ => rfl) (s2 : Plain X a2 := by exact fun _ => rfl) (s3 : Plain X a3 := by exact fun _ => rfl) (s4 : Plain X a4 := by exact fun _ => rfl) :
    Ev X wd ρ (.Call (.Name x p) [.Name y py, a1, a2, a3, a4] [] pos) (r1.bind fun x => r2.bind fun y => r3.bind fun z => r4.bind fun w => m x y z w) := (ev_callD c W G.dn hj hg hv hN hρ (eva_cons h1 (eva_cons h2 (eva_cons h3 (eva_cons h4 eva_nil (s4 _)) (s3 _)) (s2 _)) (s1 _)) l4n (by rw [s1, s2, s3, s4]; rfl)).eq (by simp [bind_assoc, l4])
end
/-! ### loops: no two rules -/
section
variable {CX : CXT} {k : Nat} {wd : Wd} {N : List Str} {sc : Scope} {X : Cx} {ρ : List Sl} {e a b c : Expr} {pos p : Pos} {ra rb : R D}
/-- a chain of two comparisons, as a test -/
theorem evt_chain {op op' : CmpOp} {r r' : R2} {g g' : D → D → R D} {rc : R D} (ho : OpR X (compareOp op) r) (ho' : OpR X (compareOp op') r') (hs : OpS X.K r g) (hs' : OpS X.K r' g') (ha : EvB X wd ρ a ra) (hb : EvB X wd ρ b rb) (hc : EvB X wd ρ c rc)
    (hm : lastMarks [op, op'] [b, c] = false := by with_unfolding_all rfl) :
    EvT X wd ρ (.Compare a [op, op'] [b, c] pos) (ra.bind fun x => rb.bind fun y => (g x y).bind fun z => (boolR z).bind fun k => if k = true then rc.bind fun w => (g' y w).bind boolR else R.ret false) := fun F ad σ H Q s q => by
  refine bt (pt_chain ho ho' pe_b pe_b pe_b hm) ?_
  rw [wp_bind] at q
  refine ha F ad σ H _ s (wp_mono (fun d q v H1 g1 r1 => ?_) (fun _ _ z => z) q)
  rw [wp_bind] at q
  have s1 := s.grow g1
  refine hb F ad σ H1 _ s1 (wp_mono (fun d2 q v2 H2 g2 r2 => ?_) (fun _ _ z => z.grow g1) q)
  have s2 := s1.grow g2
  rw [wp_bind] at q
  refine hs (Ban F ρ ad) H2 v v2 d d2 _ _ (fun b z => s2.banned z) (r1.stay s1 g2).b r2.b (wp_mono (fun z q v3 H3 sm r3 => ?_) (fun _ _ z => z.grow (g1.trans g2)) q)
  cases z with
  | bool k =>
    refine ⟨k, RepB.bool (dr := none) (.inl r3), ?_⟩
    have g3 := Grow.same (dr := wd.dr) sm
    have s3 := s2.grow g3
    cases k with
    | false => exact iteF ⟨false, rfl, q _ (g1.trans (g2.trans g3))⟩
    | true =>
      have q : wp (fun b => ∀ H', Grow wd.dr H H' → Q b H') (XP X wd F ρ ad H) (rc.bind fun w => (g' d2 w).bind boolR) := q
      rw [wp_bind] at q
      refine iteT (hc F ad σ H3 _ s3 (wp_mono (fun d4 q v4 H4 g4 r4 => ?_) (fun _ _ z => z.grow (g1.trans (g2.trans g3))) q))
      have s4 := s3.grow g4
      rw [wp_bind] at q
      refine hs' (Ban F ρ ad) H4 v2 v4 d2 d4 _ _ (fun b z => s4.banned z) ((r2.stay s2 g3).stay s3 g4).b r4.b (wp_mono (fun (z : D) q (v5 : V) (H5 : Hp) sm5 r5 => ?_) (fun _ _ z => z) q)
      cases z with
      | bool k2 => exact ⟨k2, RepB.bool (dr := none) (.inl r5), q _ (g1.trans (g2.trans (g3.trans (g4.trans (Grow.same sm5)))))⟩
      | _ => exact q.elim
  | _ => exact q.elim
theorem evt_chle {rc : R D} (ha : EvB X wd ρ a ra) (hb : EvB X wd ρ b rb) (hc : EvB X wd ρ c rc) (hm : lastMarks [.LtE, .LtE] [b, c] = false := by with_unfolding_all rfl) : EvT X wd ρ (.Compare a [.LtE, .LtE] [b, c] pos) (ra.bind fun x => rb.bind fun y => (leR x y).bind fun z => (boolR z).bind fun k => if k = true then rc.bind fun w => (leR y w).bind boolR else R.ret false) :=
  evt_chain op_le op_le opS_le opS_le ha hb hc hm
theorem evt_chlt {rc : R D} (ha : EvB X wd ρ a ra) (hb : EvB X wd ρ b rb) (hc : EvB X wd ρ c rc) (hm : lastMarks [.LtE, .Lt] [b, c] = false := by with_unfolding_all rfl) : EvT X wd ρ (.Compare a [.LtE, .Lt] [b, c] pos) (ra.bind fun x => rb.bind fun y => (leR x y).bind fun z => (boolR z).bind fun k => if k = true then rc.bind fun w => (ltR y w).bind boolR else R.ret false) :=
  evt_chain op_le op_lt opS_le opS_lt ha hb hc hm
theorem ev_chle {rc : R D} (ha : EvB X wd ρ a ra) (hb : EvB X wd ρ b rb) (hc : EvB X wd ρ c rc) (hm : lastMarks [.LtE, .LtE] [b, c] = false := by with_unfolding_all rfl) : Ev X wd ρ (.Compare a [.LtE, .LtE] [b, c] pos) (ra.bind fun x => rb.bind fun y => (leR x y).bind fun z => (boolR z).bind fun k => if k = true then rc.bind fun w => leR y w else R.ret (.bool false)) :=
  ev_chain op_le op_le opS_le opS_le ha hb hc hm
theorem ev_chlt {rc : R D} (ha : EvB X wd ρ a ra) (hb : EvB X wd ρ b rb) (hc : EvB X wd ρ c rc) (hm : lastMarks [.LtE, .Lt] [b, c] = false := by with_unfolding_all rfl) : Ev X wd ρ (.Compare a [.LtE, .Lt] [b, c] pos) (ra.bind fun x => rb.bind fun y => (leR x y).bind fun z => (boolR z).bind fun k => if k = true then rc.bind fun w => ltR y w else R.ret (.bool false)) :=
  ev_chain op_le op_lt opS_le opS_lt ha hb hc hm
end
end Pu
/-! Px: texts joined; the draws: a def that makes them, a def that takes one, a law that begins with them. -/
namespace Pu
open PySem PySem.Spec PyProof.Rows L2 R
def strOf : D → Option Str
  | .str x => some x
  | _ => none
def joinL (a : Str) (ys : List Str) : R D := if (ys.map (·.length)).sum + ys.length * a.length ≤ 16777216 then R.ret (.str (Txt.join a ys)) else bad
def strR : D → R Str
  | .str x => R.ret x
  | _ => bad
def joinR (a : Str) : D → R D
  | .list xs => (match allSome strOf xs with | some ys => joinL a ys | none => bad)
  | .tuple xs => (match allSome strOf xs with | some ys => joinL a ys | none => bad)
  | _ => bad
theorem reps_strs {K : PySem.W.Frag} {B : Addr → Prop} {H : Hp} : ∀ {ds : List D} {vs : List V} {ns : List Str}, Reps K B H vs ds → allSome strOf ds = some ns → vs = ns.map V.str
  | [], _, _, h, e => by cases h; cases e; rfl
  | d :: ds, _, ns, h, e => by
    cases h with
    | cons a b =>
      unfold allSome at e
      cases d with
      | str i =>
        cases e2 : allSome strOf ds with
        | none => rw [e2] at e; cases e
        | some ms =>
          rw [e2] at e
          cases e
          cases a
          rw [reps_strs b e2]
          rfl
      | _ => cases e
section
variable {CX : CXT} {k : Nat} {wd : Wd} {N : List Str} {sc : Scope} {X : Cx} {ρ : List Sl} {e a b : Expr} {pos apos : Pos} {ra rb : R D}
theorem ev_join (ha : EvB X wd ρ a ra) (hb : EvB X wd ρ b rb) (hs : starEach [b] X.env = [(false, eval b X.env)] := by rfl) (hbase : attributeBase a "join" X.env (eval a X.env) = eval a X.env := by rfl) (hline : (apos.endLine == pos.line) = true := by rfl) :
    Ev X wd ρ (.Call (.Attribute a "join" apos) [b] [] pos) (ra.bind fun x => (strR x).bind fun x => rb.bind fun y => joinR x y) := fun F ad σ H Q s q => by
  refine be (pe_join pe_b pe_b hs hbase hline) ?_
  rw [wp_bind] at q
  refine ha F ad σ H _ s (wp_mono (fun d q v H1 g1 r1 => ?_) (fun _ _ z => z) q)
  have s1 := s.grow g1
  cases d with
  | str z =>
    have q : (rb.bind fun y => joinR z y).wp (fun d => ∀ v H', Grow wd.dr H H' → Rep X.K (Ban F ρ ad) H' v d → Q v H') (XP X wd F ρ ad H) := q
    rw [wp_bind] at q
    refine ⟨⟨z, r1.str⟩, hb F ad σ H1 _ s1 (wp_mono (fun d2 q v2 H2 g2 r2 => ?_) (fun _ _ z => z.grow g1) q)⟩
    cases d2 with
    | list xs =>
      unfold joinR at q
      cases e2 : allSome strOf xs with
      | none => simp only [e2] at q; exact q.elim
      | some ys =>
        simp only [e2] at q
        obtain ⟨h, q⟩ := wp_ite q
        obtain ⟨l, vs, rfl, e, rr⟩ := r2.list
        exact ⟨z, l, ys, r1.str, rfl, .inl (by rw [← reps_strs rr e2]; exact .inl e), h, q _ _ (g1.trans g2) (.str _)⟩
    | tuple xs =>
      unfold joinR at q
      cases e2 : allSome strOf xs with
      | none => simp only [e2] at q; exact q.elim
      | some ys =>
        simp only [e2] at q
        obtain ⟨h, q⟩ := wp_ite q
        obtain ⟨l, vs, rfl, e, rr⟩ := r2.tuple
        exact ⟨z, l, ys, r1.str, rfl, .inr (by rw [← reps_strs rr e2]; exact e.sq), h, q _ _ (g1.trans g2) (.str _)⟩
    | _ => exact q.elim
  | _ => exact q.elim
end
/-! ### the script -/
section
variable {CX : CXT} {k : Nat} {wd : Wd} {N : List Str} {sc : Scope} {X : Cx} {ρ : List Sl} {pos p q : Pos} {x : Str} {i : Nat} {ds : List D}
theorem ev_lenS (c : Cw CX k wd N sc X) (B : Bt X.mg) (hg : glB sc "len" = true) (hv : visB sc x = true) (hN : N[i]? = some x) (hρ : ρ[i]? = some (.s ds)) : Ev X wd ρ (.Call (.Name "len" p) [.Name x q] [] pos) (R.ret (.int ds.length)) := fun F ad σ H Q s z => by
  refine be (pe_callB call_len (c.gl hg).1 B.len bv_len (pa_cons (pe_var (i := i) (by rw [c.hN]; exact hN) (c.vis hv).1 (c.vis hv).2.1 (c.vis hv).2.2) pa_nil) (c.gl hg).2.2 (c.gl hg).2.1) ?_
  obtain ⟨a, vs, e, r, rr⟩ := scr_at c s hρ
  exact ⟨_, e, _, ds.length, rfl, .inl ⟨vs, r, rr.length.symm⟩, z _ _ (Grow.refl _ _) (.int _)⟩
theorem ev_sliceS (c : Cw CX k wd N sc X) (hv : visB sc x = true) (hN : N[i]? = some x) (hρ : ρ[i]? = some (.s ds)) {lo hi : Option Expr} {p2 : Pos} {rl rh : R (Option Int)} (hl : EvP X wd ρ lo rl) (hh : EvP X wd ρ hi rh) :
    Ev X wd ρ (.Subscript (.Name x q) (.Slice lo hi none p2) pos) (rl.bind fun l => rh.bind fun h => R.ret (.list (cutD ds l h))) := fun F ad σ H Q s z => by
  refine be (pe_slice sl_list (pe_var (i := i) (by rw [c.hN]; exact hN) (c.vis hv).1 (c.vis hv).2.1 (c.vis hv).2.2) po_b po_b) ?_
  obtain ⟨a, vs, e, r, rr⟩ := scr_at c s hρ
  refine ⟨_, e, ?_⟩
  rw [wp_bind] at z
  refine hl F ad σ H _ s (wp_mono (fun l z H1 g1 => ?_) (fun _ _ z => z) z)
  rw [wp_bind] at z
  have s1 := s.grow g1
  refine hh F ad σ H1 _ s1 (wp_mono (fun h z H2 g2 => ?_) (fun _ _ z => z.grow g1) z)
  have s2 := s1.grow g2
  obtain ⟨a', vs', e', r', rr'⟩ := scr_at c s2 hρ
  rw [e] at e'
  cases e'
  exact ⟨a, vs', rfl, r', fun p hp => z _ _ (g1.trans (g2.trans (Grow.same (same_upd hp)))) (newlst (fun b y => s2.banned y) hp (cut_reps rr' l h))⟩
theorem ev_listS (c : Cw CX k wd N sc X) (B : Bt X.mg) (hg : glB sc "list" = true) (hv : visB sc x = true) (hN : N[i]? = some x) (hρ : ρ[i]? = some (.s ds)) : Ev X wd ρ (.Call (.Name "list" p) [.Name x q] [] pos) (R.ret (.list ds)) := fun F ad σ H Q s z => by
  refine be (pe_callTy call_list_of (c.gl hg).1 B.list bv_list (pa_cons (pe_var (i := i) (by rw [c.hN]; exact hN) (c.vis hv).1 (c.vis hv).2.1 (c.vis hv).2.2) pa_nil) (c.gl hg).2.2 (c.gl hg).2.1) ?_
  obtain ⟨a, vs, e, r, rr⟩ := scr_at c s hρ
  exact ⟨_, e, a, vs, rfl, .inl r, fun p hp => z _ _ (Grow.same (same_upd hp)) (newlst (fun b y => s.banned y) hp rr)⟩
end
section
variable {P : Program} {w : World} {K : PySem.W.Frag} {mg : Str → Option Value} {base : Heap} {N : List Str} {x y : Str} {st : Stmt} {k : Nat} {p1 p2 p3 p4 p5 p6 p7 p8 p9 : Pos}
def SqS (K : PySem.W.Frag) (B : Addr → Prop) (H : Hp) (a : Addr) (xs : List V) : Prop := (Rd H a (.lst xs) ∧ ¬ B a) ∨ KL K a xs
def spS (K : PySem.W.Frag) (m : D → D → R D) : Sp := fun vs H Q _ => ∃ (B : Addr → Prop) (a : Addr) (xs : List V) (ds : List D) (v : V) (d : D), Fo K H B ∧ vs = [.ref a, v] ∧ SqS K B H a xs ∧ Reps K B H xs ds ∧ Rep K B H v d ∧
  (m (.list ds) d).wp (fun z => ∀ v' H', Same H H' → Rep K B H' v' z → Q v' H') fun _ _ => False
def slotsS (N : List Str) (ds : List D) (d : D) : List Sl := .s ds :: .d d :: List.replicate (N.length - 2) .no
theorem rep_no {n i : Nat} {s : Sl} (h : (List.replicate n Sl.no)[i]? = some s) : s = .no := by
  rw [List.getElem?_replicate] at h
  split at h
  · cases h; rfl
  · cases h
theorem slotsS_own {ds : List D} {d : D} {i : Nat} : ¬ Own (slotsS N ds d) i := by
  rintro ⟨s, e, q⟩
  unfold slotsS at e
  match i, e with
  | 0, e => cases e; cases q
  | 1, e => cases e; cases q
  | i + 2, e =>
    rw [List.getElem?_cons_succ, List.getElem?_cons_succ] at e
    rw [rep_no e] at q
    cases q
theorem df_ofS (A : At K mg x st [y, "_law_count"]) (S : FnScope N [y, "_law_count"] (defScope st)) {m : D → D → R D} {o : List D → D → R (Out Unit Empty Unit)}
    (hm : ∀ ds e, m (.list ds) e = endR0 (o ds e)) {eN : Unit → List Sl} {eB : Empty → List Sl} {eT : Unit → List Sl}
    (hrun : ∀ (X : Cx), Cd CX0 k wd0 N (defScope st) X → X.prog = P → X.w = w → X.K = K → X.mg = mg → X.base = base → ∀ ds d, Run X wd0 eN eB eT (slotsS N ds d) (defBody st) (o ds d)) :
    Df P w K mg base CX0 (k + 1) x (spS K m) := by
  obtain ⟨f, fd, h1, h2, h3, F⟩ := A.ok
  refine ⟨f, fd, _, h1, h2, h3, F.ok S (fun vs H Q E h => ?_) (fun cdv A outer s H vs Q E hr h => ?_)⟩
  · obtain ⟨B, a, xs, ds, v, d, _, rfl, _⟩ := h
    rfl
  · obtain ⟨B, a, xs, ds, v, d, nb, rfl, hq, r, rv, q⟩ := h
    refine ⟨_, pss_b, ?_⟩
    have hN : 2 ≤ N.length := by have := congrArg List.length S.pre; rw [List.length_take] at this; simp only [List.length_cons, List.length_nil] at this; omega
    have hb : ∀ b, Ban B (slotsS N ds d) (fun _ => 0) b → B b := by
      rintro b (b | ⟨j, o, _⟩)
      · exact b
      · exact absurd o slotsS_own
    have st0 : StOk K none B (slotsS N ds d) (L2.start N [.ref a, v]) H fun _ => 0 := by
      refine ⟨?_, fun i j o => absurd o slotsS_own, fun i o => absurd o slotsS_own, nb.b, fun a l e => (by cases e), nb.t, fun i s e => ?_⟩
      · unfold L2.start slotsS
        simp only [List.length_append, List.length_map, List.length_replicate, List.length_cons, List.length_nil]
        omega
      · unfold slotsS at e
        match i, e with
        | 0, e =>
          cases e
          refine ⟨a, xs, by unfold L2.start; rfl, hq.imp (fun z => ⟨z.1, fun y => z.2 (hb _ y)⟩) id, r.weak hb⟩
        | 1, e =>
          cases e
          exact ⟨v, by unfold L2.start; rfl, rv.weak hb⟩
        | i + 2, e =>
          rw [List.getElem?_cons_succ, List.getElem?_cons_succ] at e
          rw [rep_no e]
          trivial
    rw [hm] at q
    unfold endR0 at q
    rw [wp_bind] at q
    refine hrun ((cxOf CX0 P w K mg base N x (defScope st) f cdv A outer s H E).nox) ⟨⟨rfl, rfl, S.nd, fun _ => rfl, un_of hr, fun _ => hr, PassesOwn.never, pass0⟩, fun _ => rfl, S.kind, rfl, rfl⟩ rfl rfl rfl rfl rfl ds d B (fun _ => 0) _ H _ st0 (wp_mono (fun z q => ?_) (fun c x z => z.elim) q)
    cases z with
    | nx u => exact fun ad' σ' H' a s' => q _ H' (fun b o e => (a.keep b o e has_none fun ⟨i, o, _⟩ => slotsS_own o).1) .non
    | bk b => exact b.elim
    | ct b => exact b.elim
    | rt d t => exact fun v ad' ρ' σ' H' a s' _ r => q v H' (fun b o e => (a.keep b o e has_none fun ⟨i, o, _⟩ => slotsS_own o).1) ((r.rep rfl).weak fun b => .inl)
/-- the draws are made -/
theorem int_reps {B : Addr → Prop} {H : Hp} : ∀ ns : List Int, Reps K B H (ns.map V.int) (ns.map PyData.int)
  | [] => .nil
  | n :: ns => .cons (.int n) (int_reps ns)
theorem reps_int {B : Addr → Prop} {H : Hp} : ∀ {ns : List Int} {vs : List V}, Reps K B H vs (ns.map PyData.int) → vs = ns.map V.int
  | [], _, h => by cases h; rfl
  | n :: ns, _, h => by
    cases h with
    | cons a b => cases a; rw [reps_int b]; rfl
def spLaw (K : PySem.W.Frag) : Sp := fun vs H Q _ => ∃ (a : Addr) (ns : List Int), vs = [.ref a] ∧ SqL K H a (ns.map V.int) ∧ ns.length ≤ 63 ∧ TbOk K H ∧ ∀ H', TbOk K H' → Q (.bl true) H'
theorem slotsL_own {n i : Nat} : ¬ Own (.no :: .w :: List.replicate n .no) i := by
  rintro ⟨s, e, q⟩
  match i, e with
  | 0, e => cases e; cases q
  | 1, e => cases e; cases q
  | i + 2, e =>
    rw [List.getElem?_cons_succ, List.getElem?_cons_succ] at e
    rw [rep_no e] at q
    cases q
end
/-! ### what the top has written -/
section
variable {K : PySem.W.Frag} {mg : Str → Option Value} {h : Heap} {x : Str} {st : Stmt} {ps : List Str} {f : Addr}
theorem at_mk (X : K.In h) (G : h.Ns mainGlobals mg) {od an : Option Addr} {sl : Array (Option Value)} {oc kV dc pm cd ct : Value} (a : PySem.W.nsIn K mainGlobals x = some (some (.ref f)))
    (l : K.lookup f = some ⟨oc, od, .func (PySem.W.fnOf x x (defArgs st) (defBody st) (defScope st) .none kV dc pm an cd ct), sl⟩) (c : PySem.W.codeIn K cd x = true) (k : PySem.W.keepIn K (.ref f) = true)
    (hb : ∀ fd, Fun K x x st f fd → Binds K fd ps []) : At K mg x st ps :=
  ⟨f, _, PySem.W.mg_of X G a, k, hb _ (fun_mk l c k), ⟨fun_mk l c k, fun c' P h => by
    unfold PySem.W.tabIn at h
    rw [a] at h
    simp only [l] at h
    split at h
    · split at h
      · split at h
        · cases h; rfl
        · cases h
      · cases h
    · cases h⟩⟩
theorem law_mk {P : Program} {w : World} {fa : Addr} {n : Nat} (X : K.In h) (G : h.Ns mainGlobals mg) (hfa : mg "law" = some (.ref fa)) {od an : Option Addr} {sl : Array (Option Value)} {oc kV dc pm cd ct : Value} (a : PySem.W.nsIn K mainGlobals "law" = some (some (.ref f)))
    (l : K.lookup f = some ⟨oc, od, .func (PySem.W.fnOf "law" "law" (defArgs st) (defBody st) (defScope st) .none kV dc pm an cd ct), sl⟩) (c : PySem.W.codeIn K cd "law" = true) (k : PySem.W.keepIn K (.ref f) = true)
    (hb : ∀ (s : Shared) (v : Value), BindsTo s (PySem.W.fnOf "law" "law" (defArgs st) (defBody st) (defScope st) .none kV dc pm an cd ct) ⟨[v], []⟩ [("_law_script", v)])
    (hF : ∀ (fd : FuncData) (base : Heap), Fun K "law" "law" st f fd → FnOk P w K mg base CX0 n f fd ["_law_script"] (spLaw K)) :
    ∃ fd : FuncData, (∀ (s : Shared) (v : Value), BindsTo s fd ⟨[v], []⟩ [("_law_script", v)]) ∧ ∀ base : Heap, K.In base → base.Ns mainGlobals mg → FnOk P w K mg base CX0 n fa fd ["_law_script"] (spLaw K) := by
  have e := hfa.symm.trans (PySem.W.mg_of X G a)
  cases e
  exact ⟨_, hb, fun base _ _ => hF _ base (fun_mk l c k)⟩
end
end Pu
/-! Pxq: the draws, a box: the def that makes it, the ones that take a draw, a law that begins with it. -/
namespace Pu
open PySem PySem.Spec PyProof.Rows L2 R
/-! ### some int, the heap as it was -/
section
variable {X : Cx} {σ : L2.St} {H : Hp} {a b t : Expr} {pos p p1 p2 p3 : Pos} {i : Nat} {x : Str} {CX : CXT} {k : Nat} {wd : Wd} {N : List Str} {sc : Scope}
def IE (X : Cx) (σ : L2.St) (H : Hp) (e : Expr) : Prop := ∀ Q : VK, (∀ z : Int, Q (.int z) H) → BE X e σ H Q
def IC (X : Cx) (σ : L2.St) (H : Hp) (e : Expr) (z : Int) : Prop := ∀ Q : VK, Q (.int z) H → BE X e σ H Q
def IT (X : Cx) (σ : L2.St) (H : Hp) (e : Expr) : Prop := ∀ Q : Bool → Hp → Prop, (∀ b, Q b H) → BT X e σ H Q
theorem IC.ie {z : Int} (h : IC X σ H a z) : IE X σ H a := fun Q q => h Q (q z)
theorem ic_int {z : Int} {j : Nat} : IC X σ H (.Constant (.int z) j pos) z := fun Q q => be pe_int q
theorem ic_neg {z : Int} {j : Nat} : IC X σ H (.UnaryOp .USub (.Constant (.int z) j p1) pos) (-z) := fun Q q => be (pe_un un_neg pe_int) ⟨z, rfl, q⟩
theorem ie_add (ha : IE X σ H a) (hb : IE X σ H b) : IE X σ H (.BinOp a .Add b pos) := fun Q q => be (pe_op op_add pe_b pe_b) (ha _ fun z => hb _ fun y => ⟨z, y, rfl, rfl, q _⟩)
theorem ie_sub (ha : IE X σ H a) (hb : IE X σ H b) : IE X σ H (.BinOp a .Sub b pos) := fun Q q => be (pe_op op_sub pe_b pe_b) (ha _ fun z => hb _ fun y => ⟨z, y, rfl, rfl, q _⟩)
theorem ie_mul {c : Int} (ha : IE X σ H a) (hb : IC X σ H b c) (h : -(2 ^ 64) < c ∧ c < 2 ^ 64) : IE X σ H (.BinOp a .Mult b pos) := fun Q q => be (pe_op op_mul pe_b pe_b) (ha _ fun z => hb _ ⟨z, c, rfl, rfl, .inr h, q _⟩)
theorem ie_mulL {c : Int} (ha : IC X σ H a c) (hb : IE X σ H b) (h : -(2 ^ 64) < c ∧ c < 2 ^ 64) : IE X σ H (.BinOp a .Mult b pos) := fun Q q => be (pe_op op_mul pe_b pe_b) (ha _ (hb _ fun z => ⟨c, z, rfl, rfl, .inl h, q _⟩))
theorem ie_mod {c : Int} (ha : IE X σ H a) (hb : IC X σ H b c) (h : c ≠ 0) : IE X σ H (.BinOp a .Mod b pos) := fun Q q => be (pe_op op_modN pe_b pe_b) (ha _ fun z => hb _ ⟨z, c, rfl, rfl, h, q _⟩)
theorem ie_toint (c : Cw CX k wd N sc X) (B : Bt X.mg) (hg : glB sc "int" = true) (ha : IE X σ H a) (he : Plain X a := by exact fun _ => rfl) : IE X σ H (.Call (.Name "int" p) [a] [] pos) := fun Q q =>
  be (pe_callTy call_int1 (c.gl hg).1 B.int bv_int (pa_cons pe_b pa_nil (he [])) (c.gl hg).2.2 (c.gl hg).2.1 (he []) rfl) (ha _ fun z => .inl ⟨z, rfl, q z⟩)
theorem it_ge (ha : IE X σ H a) (hb : IE X σ H b) (hm : behindInMarks .GtE b = false := by rfl) : IT X σ H (.Compare a [.GtE] [b] pos) := fun Q q => bt (pt_cmpR op_ge pe_b pe_b hm) (ha _ fun z => hb _ fun y => ⟨z, y, rfl, rfl, _, rfl, q _⟩)
theorem ie_if (ht : IT X σ H t) (ha : IE X σ H a) (hb : IE X σ H b) : IE X σ H (.IfExp t a b pos) := fun Q q => be (pe_ifExp pt_b pe_b pe_b) (ht _ fun c => by cases c <;> first | exact iteT (ha _ q) | exact iteF (hb _ q))
end
/-! ### inside of the loading def -/
structure OkB (a l : Addr) (H0 : Hp) (n : Nat) (C : Prop) (I : List Nat) (σ : L2.St) (H : Hp) : Prop where
  len : σ.length = n
  v0 : σ[0]? = some (some (.ref a))
  v1 : C → σ[1]? = some (some (.ref l))
  vi : ∀ i ∈ I, ∃ z : Int, σ[i]? = some (some (.int z))
  dr : DrAt H a l
  ne : l ≠ a
  keep : ∀ b o, H0 b = some o → b ≠ a → b ≠ l → H b = some o
theorem OkB.grow {a l : Addr} {H0 H : Hp} {n : Nat} {C : Prop} {I : List Nat} {σ : L2.St} (h : OkB a l H0 n C I σ H) : Grow (some (a, l)) H0 H :=
  ⟨fun b o e nb => h.keep b o e (fun z => nb ⟨a, l, rfl, .inl z⟩) fun z => nb ⟨a, l, rfl, .inr z⟩, fun a' l' z _ => by cases z; exact h.dr⟩
section
variable {X : Cx} {a l : Addr} {H0 : Hp} {n : Nat} {C : Prop} {I : List Nat} {Dn : Ends} {e t : Expr} {rest A1 : List Stmt} {pos p p1 p2 p3 p4 p5 p6 : Pos} {i j : Nat} {x : Str} {CX : CXT} {k : Nat} {wd : Wd} {N : List Str} {sc : Scope}
def BL (X : Cx) (a l : Addr) (H0 : Hp) (n : Nat) (C : Prop) (I : List Nat) (ss : List Stmt) (Dn : Ends) : Prop := ∀ σ H, OkB a l H0 n C I σ H → BSs X ss Dn σ H
def IL (X : Cx) (a l : Addr) (H0 : Hp) (n : Nat) (C : Prop) (I : List Nat) (e : Expr) : Prop := ∀ σ H, OkB a l H0 n C I σ H → IE X σ H e
theorem OkB.put {z : Int} {σ : L2.St} {H : Hp} (h : OkB a l H0 n C I σ H) (k : Int) (hk : k = 1 ∨ k = 2) : ∃ xs j, H a = some (.lst xs) ∧ ixN xs.length k = some j ∧ OkB a l H0 n C I σ (upd H a (.lst (xs.set j (.int z)))) := by
  obtain ⟨cells, x, s, m, h1, h2, h3⟩ := h.dr
  have kp : ∀ o b u, H0 b = some u → b ≠ a → b ≠ l → upd H a o b = some u := fun o b u e n1 n2 => by rw [upd_ne n1]; exact h.keep b u e n1 n2
  rcases hk with rfl | rfl
  · exact ⟨_, 1, h1, rfl, h.len, h.v0, h.v1, h.vi, ⟨cells, z, s, m, by rw [upd_same]; rfl, by rw [upd_ne h.ne]; exact h2, h3⟩, h.ne, kp _⟩
  · exact ⟨_, 2, h1, rfl, h.len, h.v0, h.v1, h.vi, ⟨cells, x, z, m, by rw [upd_same]; rfl, by rw [upd_ne h.ne]; exact h2, h3⟩, h.ne, kp _⟩
theorem OkB.set {σ : L2.St} {H : Hp} (h : OkB a l H0 n C I σ H) (z : Int) (hi : 2 ≤ i) (hn : i < n) : OkB a l H0 n C (i :: I) (σ.set i (some (.int z))) H := by
  refine ⟨by rw [List.length_set]; exact h.len, by rw [List.getElem?_set_ne (by omega)]; exact h.v0, fun c => by rw [List.getElem?_set_ne (by omega)]; exact h.v1 c, fun j hj => ?_, h.dr, h.ne, h.keep⟩
  by_cases q : j = i
  · subst q
    exact ⟨z, by rw [List.getElem?_set_self (by rw [h.len]; exact hn)]⟩
  · rcases List.mem_cons.mp hj with rfl | hj
    · exact absurd rfl q
    · obtain ⟨y, hy⟩ := h.vi j hj
      exact ⟨y, by rw [List.getElem?_set_ne (Ne.symm q)]; exact hy⟩
theorem il_var (c : Cw CX k wd N sc X) (hv : visB sc x = true) (hN : N[i]? = some x) (hi : i ∈ I) : IL X a l H0 n C I (.Name x p) := fun σ H o Q q => by
  obtain ⟨z, hz⟩ := o.vi i hi
  exact be (pe_var (i := i) (by rw [c.hN]; exact hN) (c.vis hv).1 (c.vis hv).2.1 (c.vis hv).2.2) ⟨_, hz, q z⟩
theorem il_box (c : Cw CX k wd N sc X) (hv : visB sc x = true) (hN : N[0]? = some x) {z : Int} {jj : Nat} (hz : z = 1 ∨ z = 2) (hs : PlainIx (.Constant (.int z) jj p2) := by exact fun _ _ => rfl) : IL X a l H0 n C I (.Subscript (.Name x p1) (.Constant (.int z) jj p2) pos) := fun σ H o Q q => by
  obtain ⟨cells, y, s, m, h1, h2, h3⟩ := o.dr
  refine be (pe_ix ix_list (pe_var (i := 0) (by rw [c.hN]; exact hN) (c.vis hv).1 (c.vis hv).2.1 (c.vis hv).2.2) pe_int hs) ⟨_, o.v0, ?_⟩
  rcases hz with rfl | rfl
  · exact ⟨a, _, 1, .int y, rfl, rfl, .of h1, rfl, q y⟩
  · exact ⟨a, _, 2, .int s, rfl, rfl, .of h1, rfl, q s⟩
theorem bl_set (c : Cd CX k wd N sc X) (hx : lcB sc x = true) (hN : N[i]? = some x) (hi : 2 ≤ i) (hn : i < n) (he : IL X a l H0 n C I e) (hr : BL X a l H0 n C (i :: I) rest Dn) (hs : swapsWith e (some (.Name x p)) pos.line X.env = pure false := by rfl) : BL X a l H0 n C I (.Assign [.Name x p] e pos :: rest) Dn := fun σ H o =>
  bss (pss_cons (ps_set c.nd' (c.at hN) (c.loc hx) pe_b hs (.inl (c.fn x))) pss_b) (he σ H o _ fun z => hr _ _ (o.set z hi hn))
theorem bl_put (c : Cw CX k wd N sc X) (hv : visB sc x = true) (hN : N[0]? = some x) {z : Int} {jj : Nat} (hz : z = 1 ∨ z = 2) (he : IL X a l H0 n C I e) (hr : BL X a l H0 n C I rest Dn)
    (hs : swapsWithSole [.Subscript (.Name x p1) (.Constant (.int z) jj p2) p3] e pos.line X.env = pure false := by rfl) (hw : swappedStores [.Subscript (.Name x p1) (.Constant (.int z) jj p2) p3] e X.env = pure none := by rfl) :
    BL X a l H0 n C I (.Assign [.Subscript (.Name x p1) (.Constant (.int z) jj p2) p3] e pos :: rest) Dn := fun σ H o => by
  refine bss (pss_cons (ps_asg pe_b (pg_sub (pe_var (i := 0) (by rw [c.hN]; exact hN) (c.vis hv).1 (c.vis hv).2.1 (c.vis hv).2.2) pe_int set_list) hs hw) pss_b) (he σ H o _ fun y => ?_)
  obtain ⟨xs, j, h1, h2, o2⟩ := o.put (z := y) z hz
  exact ⟨_, o.v0, a, xs, z, j, rfl, rfl, h1, h2, hr _ _ o2⟩
theorem bl_ret (he : IL X a l H0 n C I e) (hr : ∀ z H, Grow (some (a, l)) H0 H → DrAt H a l → Dn.rt (.int z) H) : BL X a l H0 n C I [.Return (some e) pos] Dn := fun σ H o =>
  bss (pss_one (ps_ret pe_b)) (he σ H o _ fun z => hr z H o.grow o.dr)
theorem bl_nil (hr : ∀ σ H, OkB a l H0 n C I σ H → Dn.nx σ H) : BL X a l H0 n C I [] Dn := fun σ H o => bss pss_nil (hr σ H o)
theorem BL.less {I' : List Nat} (h : BL X a l H0 n C I rest Dn) (hi : ∀ i ∈ I, i ∈ I') : BL X a l H0 n C I' rest Dn := fun σ H o => h σ H ⟨o.len, o.v0, o.v1, fun i hm => o.vi i (hi i hm), o.dr, o.ne, o.keep⟩
theorem bl_ifret (ht : ∀ σ H, OkB a l H0 n C I σ H → IT X σ H t) (hA : BL X a l H0 n C I A1 { Dn with nx := BSs X rest Dn }) (hr : BL X a l H0 n C I rest Dn) : BL X a l H0 n C I (.If t A1 [] pos :: rest) Dn := fun σ H o =>
  bss (pss_cons (ps_if pt_b pss_b pss_nil) pss_b) (ht σ H o _ fun b => by
    cases b with
    | true => exact iteT (hA σ H o)
    | false => exact iteF (hr σ H o))
/-- cells = box[0] -/
theorem bl_cells (c : Cd CX k wd N sc X) (hx : lcB sc x = true) (hN : N[1]? = some x) {y : Str} (hv : visB sc y = true) (hN0 : N[0]? = some y) {jj : Nat} (hr : BL X a l H0 n True [] rest Dn) (hn : 1 < n) (hs : PlainIx (.Constant (.int 0) jj p2) := by exact fun _ _ => rfl)
    (hsw : swapsWith (.Subscript (.Name y p1) (.Constant (.int 0) jj p2) p3) (some (.Name x p)) pos.line X.env = pure false := by rfl) : BL X a l H0 n False [] (.Assign [.Name x p] (.Subscript (.Name y p1) (.Constant (.int 0) jj p2) p3) pos :: rest) Dn := fun σ H o => by
  obtain ⟨cells, x1, s, m, h1, h2, h3⟩ := o.dr
  refine bss (pss_cons (ps_set (i := 1) c.nd' (c.at hN) (c.loc hx) (pe_ix ix_list (pe_var (i := 0) (c.at hN0) (c.vis hv).1 (c.vis hv).2.1 (c.vis hv).2.2) pe_int hs) hsw (.inl (c.fn x))) pss_b) ⟨_, o.v0, a, _, 0, .ref l, rfl, rfl, .of h1, rfl, ?_⟩
  exact hr _ _ ⟨by rw [List.length_set]; exact o.len, by rw [List.getElem?_set_ne (by decide)]; exact o.v0, fun _ => by rw [List.getElem?_set_self (by rw [o.len]; exact hn)], fun i hi => (by simp at hi), o.dr, o.ne, o.keep⟩
/-- if len(cells) > 0: cell = int(cells.pop(0)) -/
theorem bl_pop (c : Cd CX k wd N sc X) (B : Bt X.mg) (gl : glB sc "len" = true) (gi : glB sc "int" = true) {y : Str} (hv : visB sc y = true) (hN1 : N[1]? = some y) (hx : lcB sc x = true) (hN : N[2]? = some x) (hn : 2 < n) {jj j2 : Nat} {q1 q2 q3 q4 q5 q6 q7 q8 q9 : Pos}
    (hA : BL X a l H0 n True [2] A1 { Dn with nx := BSs X rest Dn }) (hr : BL X a l H0 n True [] rest Dn)
    (hsw : swapsWith (.Call (.Name "int" q4) [.Call (.Attribute (.Name y q5) "pop" q6) [.Constant (.int 0) j2 q7] [] q8] [] q9) (some (.Name x p)) p5.line X.env = pure false := by rfl)
    (hbase : attributeBase (.Name y q5) "pop" X.env (eval (.Name y q5) X.env) = eval (.Name y q5) X.env := by rfl) (hline : (q6.endLine == q8.line) = true := by rfl)
    (he : starEach (.Constant (.int 0) j2 q7 :: []) X.env = (false, eval (.Constant (.int 0) j2 q7) X.env) :: starEach [] X.env := by rfl)
    (hp : Plain X (.Call (.Attribute (.Name y q5) "pop" q6) [.Constant (.int 0) j2 q7] [] q8) := by exact fun _ => rfl) (hm : behindInMarks .Gt (.Constant (.int 0) jj p3) = false := by rfl) :
    BL X a l H0 n True [] (.If (.Compare (.Call (.Name "len" q1) [.Name y q2] [] q3) [.Gt] [.Constant (.int 0) jj p3] p4) (.Assign [.Name x p] (.Call (.Name "int" q4) [.Call (.Attribute (.Name y q5) "pop" q6) [.Constant (.int 0) j2 q7] [] q8] [] q9) p5 :: A1) [] pos :: rest) Dn := fun σ H o => by
  obtain ⟨cells, x1, s, m, h1, h2, h3⟩ := o.dr
  have P1 : ∀ {p : Pos}, PE X (.Name y p) (tVar 1) := fun {p} => pe_var (i := 1) (c.at hN1) (c.vis hv).1 (c.vis hv).2.1 (c.vis hv).2.2
  refine bss (pss_cons (ps_if (pt_cmpR op_gt (pe_callB call_len (c.gl gl).1 B.len bv_len (pa_cons P1 pa_nil) (c.gl gl).2.2 (c.gl gl).2.1) pe_int hm)
    (pss_cons (ps_set (i := 2) c.nd' (c.at hN) (c.loc hx) (pe_callTy call_int1 (c.gl gi).1 B.int bv_int (pa_cons (pe_bm PySem.F.plainAttrs_list PySem.F.slot_list_pop PySem.F.type_list_pop mt_popAt P1 (pa_cons pe_int pa_nil he) hbase (by rw [he]; rfl) hline he rfl) pa_nil (hp [])) (c.gl gi).2.2 (c.gl gi).2.1 (hp []) rfl) hsw (.inl (c.fn x))) pss_b) pss_nil) pss_b) ?_
  have hl : (cells.map V.int).length = cells.length := List.length_map _
  refine ⟨_, o.v1 trivial, .ref l, cells.length, rfl, .inl ⟨_, .inl (.inl h2), hl.symm⟩, _, _, rfl, rfl, _, rfl, ?_⟩
  cases cells with
  | nil => exact iteF (hr σ H o)
  | cons z zs =>
    have hz : decide ((0 : Int) < (((z :: zs).length : Nat) : Int)) = true := by simp
    rw [hz]
    refine iteT (B := tNext { Dn with nx := BSs X rest Dn } σ H) ?_
    refine ⟨_, o.v1 trivial, .inl ⟨rfl, _, .of h2⟩, l, _, 0, 0, .int z, rfl, rfl, h2, by decide, by decide, ?_, rfl, .inl ⟨z, rfl, ?_⟩⟩
    · exact seqIndex_of (k := 0) (by decide) (by rw [hl]; simp)
    · have o2 : OkB a l H0 n True [] σ (upd H l (.lst (((z :: zs).map V.int).eraseIdx 0))) := ⟨o.len, o.v0, o.v1, o.vi, ⟨zs, x1, s, m, by rw [upd_ne (Ne.symm o.ne)]; exact h1, by rw [upd_same]; rfl, by rw [List.length_cons] at h3; omega⟩, o.ne, fun b u e n1 n2 => by rw [upd_ne n2]; exact o.keep b u e n1 n2⟩
      exact hA _ _ (o2.set z (by decide) hn)
end
/-! ### the defs -/
/-- the loading def: some int; the box has turned -/
def spLd : Sp := fun vs H Q _ => ∃ a l, vs = [.ref a] ∧ l ≠ a ∧ DrAt H a l ∧ ∀ z H', Grow (some (a, l)) H H' → DrAt H' a l → Q (.int z) H'
section
variable {P : Program} {w : World} {K : PySem.W.Frag} {mg : Str → Option Value} {base : Heap} {N ps : List Str} {x y : Str} {st : Stmt} {k : Nat}
theorem df_load {b : Str} (A : At K mg x st [b]) (S : FnScope N [b] (defScope st))
    (hrun : ∀ (X : Cx), Cd CX0 k wd0 N (defScope st) X → X.prog = P → X.w = w → X.K = K → X.mg = mg → X.base = base → ∀ a l H Dn, (∀ z H', Grow (some (a, l)) H H' → DrAt H' a l → Dn.rt (.int z) H') → BL X a l H N.length False [] (defBody st) Dn) :
    Df P w K mg base CX0 (k + 1) x spLd := by
  obtain ⟨f, fd, h1, h2, h3, F⟩ := A.ok
  refine ⟨f, fd, _, h1, h2, h3, F.ok S (fun vs H Q E h => ?_) (fun cdv A outer s H vs Q E hr h => ?_)⟩
  · obtain ⟨a, l, rfl, _⟩ := h
    rfl
  · obtain ⟨a, l, rfl, ne, da, q⟩ := h
    refine ⟨_, pss_b, ?_⟩
    have hN : 1 ≤ N.length := by have := congrArg List.length S.pre; rw [List.length_take] at this; simp only [List.length_cons, List.length_nil] at this; omega
    refine hrun ((cxOf CX0 P w K mg base N x (defScope st) f cdv A outer s H E).nox) ⟨⟨rfl, rfl, S.nd, fun _ => rfl, un_of hr, fun _ => hr, PassesOwn.never, pass0⟩, fun _ => rfl, S.kind, rfl, rfl⟩ rfl rfl rfl rfl rfl a l H _ (fun z H' g d => q z H' g d) _ _ ⟨?_, by unfold L2.start; rfl, fun z => z.elim, fun i hi => (by simp at hi), da, ne, fun b o e _ _ => e⟩
    unfold L2.start
    simp only [List.length_append, List.length_map, List.length_replicate, List.length_cons, List.length_nil]
    omega
variable {p1 p2 p3 p4 p5 p6 p7 p8 p9 p10 p11 p12 p13 p14 p15 p16 p17 p18 p19 p20 p21 p22 p23 p24 p25 p26 p27 p28 p29 p30 p31 p32 p33 p34 p35 p36 p37 p38 p39 : Pos} {mny dg b ld : Str}
/-- a draw from 0 on, below m -/
def drawB : D → R D
  | .int m => if 0 < m ∧ m.natAbs < fdLine then .pick m fun i => ret (.int i) else bad
  | _ => bad
theorem df_draw {f0 : Str} {j : Nat} (A : At K mg f0 st [b, mny]) (S : FnScope [b, mny, dg] [b, mny] (defScope st)) (B : Bt mg) (G : Df P w K mg base CX0 j ld spLd) (hj : j ≤ k)
    (hv : (visB (defScope st) b && visB (defScope st) mny && visB (defScope st) dg && lcB (defScope st) dg && glB (defScope st) "int" && glB (defScope st) ld) = true)
    (hb : defBody st = [.If (.Compare (.Subscript (.Name b p1) (.Constant (.int 1) 0 p2) p3) [.Lt] [.Name mny p4] p5) [.Assign [.Subscript (.Name b p6) (.Constant (.int 1) 0 p7) p8] (.Call (.Name ld p9) [.Name b p10] [] p11) p12] [] p13,
      .Assign [.Name dg p14] (.BinOp (.Call (.Name "int" p15) [.Subscript (.Name b p16) (.Constant (.int 1) 0 p17) p18] [] p19) .Mod (.Name mny p20) p21) p22,
      .Assign [.Subscript (.Name b p23) (.Constant (.int 1) 0 p24) p25] (.BinOp (.Subscript (.Name b p26) (.Constant (.int 1) 0 p27) p28) .FloorDiv (.Name mny p29) p30) p31,
      .Return (some (.Name dg p32)) p33]) :
    Df P w K mg base CX0 (k + 1) f0 (spD K 1 (l1 drawB)) := by
  refine df_ofD A S (n := 1) rfl (T := Unit) (eT := fun _ => []) (o := l1 fun b => (drawB b).bind fun d => R.ret (.rt d ())) (fun ds hl => ?_) (eN := fun _ => []) (eB := fun e => e.elim) fun X pa c e1 e2 e3 e4 e5 ds hl => ?_
  · match ds, hl with
    | [b], _ =>
      show drawB b = ((drawB b).bind fun d => R.ret (.rt d ())).bind outD
      rw [bind_assoc]
      induction drawB b with
      | ret a => rfl
      | exc c x => rfl
      | bad => rfl
      | pick n k ih => exact congrArg _ (funext fun i => ih i)
  · match ds, hl with
    | [mm], _ =>
    subst e1 e2 e3 e4 e5
    rw [hb]
    simp only [Bool.and_eq_true] at hv
    obtain ⟨⟨⟨⟨⟨v0, v1⟩, v2⟩, l2⟩, gi⟩, gl⟩ := hv
    obtain ⟨a, l⟩ := pa
    have vP : ∀ {x : Str} {i : Nat} {p : Pos}, visB (defScope st) x = true → ([b, mny, dg] : List Str)[i]? = some x → PE X (.Name x p) (tVar i) := fun {x i p} h hN => pe_var (i := i) (by rw [c.hN]; exact hN) (c.vis h).1 (c.vis h).2.1 (c.vis h).2.2
    have pl : ∀ {jj : Nat} {p : Pos}, PlainIx (.Constant (.int 1) jj p) := fun _ _ => rfl
    intro F ad σ H Dn s q
    obtain ⟨vb, eb, rb⟩ : ∃ v, σ[1]? = some (some v) ∧ Rep X.K (Ban F (slotsD [b, mny, dg] [mm]) ad) H v mm := s.sl 1 _ rfl
    obtain ⟨a', l', ha', ev⟩ : ∃ b l', (wdD (a, l)).dr = some (b, l') ∧ σ[0]? = some (some (V.ref b)) := s.sl 0 .w rfl
    cases ha'
    obtain ⟨fa, fl, ne, da⟩ := s.dk a l rfl
    have hlen : σ.length = 3 := s.len
    cases mm with
    | int m =>
      cases rb
      by_cases hm : 0 < m ∧ m.natAbs < fdLine
      · have q : (((if 0 < m ∧ m.natAbs < fdLine then R.pick m fun i => R.ret (PyData.int i) else bad).bind fun d => R.ret (.rt d ()) : R (Out Unit Empty Unit))).wp (OutOk X (wdD (a, l)) (fun _ => []) (fun e => e.elim) (fun _ => []) F (slotsD [b, mny, dg] [.int m]) ad H Dn) (XPs X (wdD (a, l)) F (slotsD [b, mny, dg] [.int m]) ad H) := q
        rw [if_pos hm] at q
        have o0 : OkB a l H 3 False [] σ H := ⟨hlen, ev, fun z => z.elim, fun i hi => (by simp at hi), da, ne, fun b o e _ _ => e⟩
        -- behind the loading
        have rest : ∀ H1, OkB a l H 3 False [] σ H1 → BSs X [.Assign [.Name dg p14] (.BinOp (.Call (.Name "int" p15) [.Subscript (.Name b p16) (.Constant (.int 1) 0 p17) p18] [] p19) .Mod (.Name mny p20) p21) p22,
            .Assign [.Subscript (.Name b p23) (.Constant (.int 1) 0 p24) p25] (.BinOp (.Subscript (.Name b p26) (.Constant (.int 1) 0 p27) p28) .FloorDiv (.Name mny p29) p30) p31,
            .Return (some (.Name dg p32)) p33] Dn σ H1 := fun H1 o => by
          obtain ⟨cells, x, sd, mo, h1, h2, h3⟩ := o.dr
          refine bss (pss_cons (ps_set (i := 2) c.nd' (c.at rfl) (c.loc l2) (pe_op op_modN (pe_callTy call_int1 (c.gl gi).1 B.int bv_int (pa_cons (pe_ix ix_list (vP (i := 0) v0 rfl) pe_int pl) pa_nil) (c.gl gi).2.2 (c.gl gi).2.1) (vP (i := 1) v1 rfl)) rfl (.inl (c.fn _)))
            (pss_cons (ps_asg (pe_op op_fdivL (pe_ix ix_list (vP (i := 0) v0 rfl) pe_int pl) (vP (i := 1) v1 rfl)) (pg_sub (vP (i := 0) v0 rfl) pe_int set_list))
            (pss_one (ps_ret (vP (i := 2) v2 rfl))))) ?_
          refine ⟨_, o.v0, a, _, 1, .int x, rfl, rfl, .of h1, rfl, .inl ⟨x, rfl, _, eb, x, m, rfl, rfl, by omega, ?_⟩⟩
          have z0 : (σ.set 2 (some (V.int (x.fmod m))))[0]? = some (some (.ref a)) := by rw [List.getElem?_set_ne (by decide)]; exact o.v0
          have z1 : (σ.set 2 (some (V.int (x.fmod m))))[1]? = some (some (.int m)) := by rw [List.getElem?_set_ne (by decide)]; exact eb
          refine ⟨_, z0, a, _, 1, .int x, rfl, rfl, .of h1, rfl, _, z1, x, m, rfl, rfl, ⟨by omega, hm.2⟩, ?_⟩
          obtain ⟨xs, jx, k1, k2, o2⟩ := o.put (z := x.fdiv m) 1 (.inl rfl)
          refine ⟨_, z0, a, xs, 1, jx, rfl, rfl, k1, k2, ?_⟩
          refine ⟨_, by rw [List.getElem?_set_self (by rw [hlen]; decide)], ?_⟩
          have hi := q (x.fmod m) (Int.fmod_nonneg_of_pos _ hm.1) (Int.fmod_lt_of_pos _ hm.1)
          exact hi _ ad _ σ _ (.grow o2.grow) (s.grow o2.grow) (fun i s h => by simp at h) (.inl (.int _))
        obtain ⟨cells, x, sd, mo, h1, h2, h3⟩ := da
        obtain ⟨f2, fd2, ps2, m1, m2, m3, m4⟩ := G
        refine bss (pss_cons (ps_if (pt_cmpR op_lt (pe_ix ix_list (vP (i := 0) v0 rfl) pe_int pl) (vP (i := 1) v1 rfl) rfl)
          (pss_cons (ps_asg (pe_call m4 (c.room.mono hj) (c.gl gl).1 m1 m2 m3 .nil c.ps (pa_cons (vP (i := 0) v0 rfl) pa_nil) (c.gl gl).2.1) (pg_sub (vP (i := 0) v0 rfl) pe_int set_list)) pss_nil) pss_nil) pss_b) ?_
        refine ⟨_, ev, a, _, 1, .int x, rfl, rfl, .of h1, rfl, _, eb, x, m, rfl, rfl, _, rfl, ?_⟩
        by_cases hx : x < m
        · rw [decide_eq_true hx]
          refine iteT (B := tNext { Dn with nx := BSs X _ Dn } σ H) ?_
          refine ⟨_, ev, a, l, rfl, ne, ⟨cells, x, sd, mo, h1, h2, h3⟩, fun z H' g d => ?_⟩
          have o1 : OkB a l H 3 False [] σ H' := ⟨hlen, ev, fun z => z.elim, fun i hi => (by simp at hi), d, ne, fun b o e n1 n2 => g.keep b o e fun ⟨a', l', z, w⟩ => by cases z; rcases w with w | w <;> contradiction⟩
          obtain ⟨xs, jx, k1, k2, o2⟩ := o1.put (z := z) 1 (.inl rfl)
          exact ⟨_, ev, a, xs, 1, jx, rfl, rfl, k1, k2, rest _ o2⟩
        · rw [decide_eq_false hx]
          exact iteF (rest _ o0)
      · have q : (((if 0 < m ∧ m.natAbs < fdLine then R.pick m fun i => R.ret (PyData.int i) else bad).bind fun d => R.ret (.rt d ()) : R (Out Unit Empty Unit))).wp (OutOk X (wdD (a, l)) (fun _ => []) (fun e => e.elim) (fun _ => []) F (slotsD [b, mny, dg] [.int m]) ad H Dn) (XPs X (wdD (a, l)) F (slotsD [b, mny, dg] [.int m]) ad H) := q
        rw [if_neg hm] at q
        exact q.elim
    | _ => exact q.elim
/-- the box is made -/
def spBx (K : PySem.W.Frag) : Sp := fun vs H Q _ => ∃ (a : Addr) (ns : List Int) (m : Int), vs = [.ref a, .int m] ∧ SqL K H a (ns.map V.int) ∧ ns.length ≤ 63 ∧ TbOk K H ∧ ∀ p l H', l ≠ p → DrAt H' p l → TbOk K H' → Q (.ref p) H'
theorem df_box {f0 sn nn : Str} (A : At K mg f0 st [sn, nn]) (S : FnScope [sn, nn] [sn, nn] (defScope st)) (B : Bt mg) {z0 : Int}
    (hv : (visB (defScope st) sn && visB (defScope st) nn && glB (defScope st) "list" && glB (defScope st) "len") = true)
    (hb : defBody st = [.Return (some (.List [.Call (.Name "list" p1) [.Name sn p2] [] p3, .Constant (.int 0) 0 p4, .BinOp (.Constant (.int z0) 0 p5) .Add (.Call (.Name "len" p6) [.Name sn p7] [] p8) p9, .Name nn p10] p11)) p12]) :
    Df P w K mg base CX0 (k + 1) f0 (spBx K) := by
  obtain ⟨f, fd, h1, h2, h3, F⟩ := A.ok
  refine ⟨f, fd, _, h1, h2, h3, F.ok S (fun vs H Q E h => ?_) (fun cdv A outer s H vs Q E hr h => ?_)⟩
  · obtain ⟨a, ns, m, rfl, _⟩ := h
    rfl
  · obtain ⟨a, ns, m, rfl, hq, hl, htb, q⟩ := h
    rw [hb]
    simp only [Bool.and_eq_true] at hv
    obtain ⟨⟨⟨v0, v1⟩, gt⟩, gl⟩ := hv
    have c : Cw CX0 k wd0 [sn, nn] (defScope st) ((cxOf CX0 P w K mg base [sn, nn] f0 (defScope st) f cdv A outer s H E).nox) := ⟨rfl, rfl, S.nd, fun _ => rfl, un_of hr, fun _ => hr, PassesOwn.never, pass0⟩
    have vP : ∀ {x : Str} {i : Nat} {p : Pos}, visB (defScope st) x = true → ([sn, nn] : List Str)[i]? = some x → PE ((cxOf CX0 P w K mg base [sn, nn] f0 (defScope st) f cdv A outer s H E).nox) (.Name x p) (tVar i) := fun {x i p} h hN => pe_var (i := i) (by rw [c.hN]; exact hN) (c.vis h).1 (c.vis h).2.1 (c.vis h).2.2
    refine ⟨_, pss_one (ps_ret (pe_lst (pa_cons (pe_callTy call_list_of (c.gl gt).1 B.list bv_list (pa_cons (vP (i := 0) v0 rfl) pa_nil) (c.gl gt).2.2 (c.gl gt).2.1) (pa_cons pe_int (pa_cons (pe_op op_add pe_int (pe_callB call_len (c.gl gl).1 B.len bv_len (pa_cons (vP (i := 0) v0 rfl) pa_nil) (c.gl gl).2.2 (c.gl gl).2.1)) (pa_cons (vP (i := 1) v1 rfl) pa_nil)))))), ?_⟩
    refine ⟨_, rfl, a, ns.map V.int, rfl, .inl hq, fun l hl0 => ?_⟩
    have hq2 : SqL K (upd H l (.lst (ns.map V.int))) a (ns.map V.int) := by
      rcases hq with hq | hq
      · exact .inl (rd_imp hq fun x e => by rw [upd_ne fun z => by rw [z, hl0] at e; cases e]; exact e)
      · exact .inr hq
    refine ⟨_, rfl, .ref a, ns.length, rfl, .inl ⟨_, hq2, (List.length_map _).symm⟩, z0, _, rfl, rfl, _, rfl, Nat.le_of_lt (small1000 (show 4 ≤ 1000 by decide)), fun p hp => ?_⟩
    have ne : l ≠ p := fun z => by rw [z, upd_same] at hp; cases hp
    exact q p l _ ne ⟨ns, 0, _, m, upd_same, by rw [upd_ne ne, upd_same], hl⟩ ((htb.same (same_upd hl0)).same (same_upd hp))
theorem ok_lawB {f : Addr} {fd : FuncData} (F : Fun K "law" "law" st f fd) (S : FnScope N ["_law_script"] (defScope st)) (h1N : N[1]? = some ("_law_box_here" : Str)) {j : Nat} (G : Df P w K mg base CX0 j "_law_box" (spBx K)) (hj : j ≤ k) {cn : Int}
    (hv : (visB (defScope st) "_law_script" && lcB (defScope st) "_law_box_here" && glB (defScope st) "_law_box") = true) {rest : List Stmt}
    (hb : defBody st = .Assign [.Name "_law_box_here" p1] (.Call (.Name "_law_box" p2) [.Name "_law_script" p3, .Constant (.int cn) 0 p4] [] p5) p6 :: rest)
    {o : R (Out Unit Empty Unit)} {eN : Unit → List Sl} {eB : Empty → List Sl} {eT : Unit → List Sl}
    (hrun : ∀ (X : Cx) (a : Addr × Addr), Cd CX0 k (wdD a) N (defScope st) X → X.prog = P → X.w = w → X.K = K → X.mg = mg → X.base = base → Run X (wdD a) eN eB eT (.no :: .w :: List.replicate (N.length - 2) .no) rest o)
    (ho : o.wp (fun x => ∃ t, x = .rt (.bool true) t) fun _ _ => False) : FnOk P w K mg base CX0 (k + 1) f fd ["_law_script"] (spLaw K) := by
  refine F.ok S (fun vs H Q E h => ?_) (fun cdv A outer s H vs Q E hr h => ?_)
  · obtain ⟨a, ns, rfl, _⟩ := h
    rfl
  · obtain ⟨a, ns, rfl, hq, hl, htb, q⟩ := h
    rw [hb]
    simp only [Bool.and_eq_true] at hv
    obtain ⟨⟨v1, v2⟩, g1⟩ := hv
    have hN0 : N[0]? = some ("_law_script" : Str) := by
      have e := congrArg (fun z : List Str => z[0]?) S.pre
      rw [List.getElem?_take] at e
      exact e
    have hN : 2 ≤ N.length := by
      by_cases z : 1 < N.length
      · exact z
      · rw [List.getElem?_eq_none (by omega)] at h1N; cases h1N
    have cc : ∀ b, Cd CX0 k (wdD b) N (defScope st) ((cxOf CX0 P w K mg base N "law" (defScope st) f cdv A outer s H E).nox) := fun b => ⟨⟨rfl, rfl, S.nd, fun _ => rfl, un_of hr, fun _ => hr, PassesOwn.never, pass0⟩, fun _ => rfl, S.kind, rfl, rfl⟩
    have c := cc (0, 0)
    obtain ⟨f2, fd2, ps2, m1, m2, m3, m4⟩ := G
    refine ⟨_, pss_cons (ps_set (i := 1) S.nd h1N (c.loc v2) (pe_call m4 (c.room.mono hj) (c.gl g1).1 m1 m2 m3 .nil c.ps (pa_cons (pe_var (i := 0) hN0 (c.vis v1).1 (c.vis v1).2.1 (c.vis v1).2.2) (pa_cons pe_int pa_nil)) (c.gl g1).2.1)) pss_b, ?_⟩
    refine ⟨_, by unfold L2.start; rfl, a, ns, cn, rfl, hq, hl, htb, fun p l H' ne da htb' => ?_⟩
    have st0 : StOk K (some (p, l)) (fun b => b = p ∨ b = l) (.no :: .w :: List.replicate (N.length - 2) .no) ((L2.start N [.ref a]).set 1 (some (.ref p))) H' fun _ => 0 := by
      refine ⟨?_, fun i j o => absurd o slotsL_own, fun i o => absurd o slotsL_own, fun b z => ?_, fun b b' e => ?_, htb', fun i s e => ?_⟩
      · rw [List.length_set]
        unfold L2.start
        simp only [List.length_append, List.length_map, List.length_replicate, List.length_cons, List.length_nil]
        omega
      · rcases z with rfl | rfl
        · exact da.bd
        · exact da.bdl
      · cases e
        exact ⟨.inl rfl, .inr rfl, ne, da⟩
      · match i, e with
        | 0, e => cases e; trivial
        | 1, e =>
          cases e
          refine ⟨p, l, rfl, ?_⟩
          rw [List.getElem?_set_self]
          unfold L2.start
          simp only [List.length_append, List.length_map, List.length_replicate, List.length_cons, List.length_nil]
          omega
        | i + 2, e =>
          rw [List.getElem?_cons_succ, List.getElem?_cons_succ] at e
          rw [rep_no e]
          trivial
    refine hrun _ (p, l) (cc (p, l)) rfl rfl rfl rfl rfl _ (fun _ => 0) _ H' _ st0 (wp_mono (fun z q => ?_) (fun c x z => z.elim) ho)
    obtain ⟨t, rfl⟩ := q
    exact fun v ad' ρ' σ' H2 a s' _ r => by
      have r := r.rep rfl
      cases r
      exact q H2 s'.tb
end
end Pu
/-! Py: dicts that a def owns or borrows. -/
namespace Pu
open PySem PySem.Spec PyProof.Rows L2 R
/-! ### keys, contents -/
def keyOf : D → Option Key
  | .int i => some (.inl i)
  | .str x => some (.inr x)
  | _ => none
def keysOf : D → Option (List Key)
  | .tuple ds => allSome keyOf ds
  | _ => none
section
variable {κ : Type} [DecidableEq κ]
def valD (kvs : List (κ × D)) (k : κ) : Option D := (kvs.find? fun kv => decide (kv.1 = k)).map (·.2)
def putD (kvs : List (κ × D)) (k : κ) (v : D) : List (κ × D) := if (valD kvs k).isSome = true then kvs.map fun kv => if kv.1 = k then (kv.1, v) else kv else kvs ++ [(k, v)]
def dropD (kvs : List (κ × D)) (k : κ) : List (κ × D) := kvs.filter fun kv => decide (kv.1 ≠ k)
end
/-- what stands at a key; none: no key of this dict -/
def getC : Ct → D → Option (Option D)
  | .k kvs, d => (keyOf d).map fun k => valD kvs k
  | .t kvs, d => (keysOf d).map fun k => valD kvs k
  | .l _, _ => none
def dgetR (c : Ct) (k : D) : R D := match getC c k with
  | some (some v) => ret v
  | _ => bad
def dgetxR (c : Ct) (k x : D) : R D := match getC c k with
  | some o => ret (o.getD x)
  | _ => bad
def dinR (c : Ct) (k : D) : R D := match getC c k with
  | some o => ret (.bool o.isSome)
  | _ => bad
def dninR (c : Ct) (k : D) : R D := match getC c k with
  | some o => ret (.bool (!o.isSome))
  | _ => bad
def Ct.isD : Ct → Bool
  | .l _ => false
  | _ => true
def Sl.ct : Sl → Option Ct
  | .l xs => some (.l xs)
  | .k kvs => some (.k kvs)
  | .kt kvs => some (.t kvs)
  | .b c => some c
  | _ => none
section
variable {K : PySem.W.Frag} {dr : Drs} {F : Addr → Prop} {B : Addr → Prop} {ρ ρ' : List Sl} {σ σ' : L2.St} {H H' : Hp} {ad ad' : Nat → Addr}
/-- an object that a slot names -/
theorem ct_at (s : StOk K dr F ρ σ H ad) {i : Nat} {sl : Sl} {c : Ct} (e : ρ[i]? = some sl) (h : sl.ct = some c) : ∃ a, σ[i]? = some (some (.ref a)) ∧ HasCt K (Ban F ρ ad) H a c ∧ Ban F ρ ad a ∧ ¬ Has dr a := by
  have own : sl.own = true → ¬ Has dr (ad i) := fun ho z => s.nf i ⟨sl, e, ho⟩ (s.dF z)
  have z := s.sl i sl e
  cases sl with
  | l xs => cases h; exact ⟨ad i, z.1, z.2, .inr ⟨i, ⟨_, e, rfl⟩, rfl⟩, own rfl⟩
  | k kvs => cases h; exact ⟨ad i, z.1, z.2, .inr ⟨i, ⟨_, e, rfl⟩, rfl⟩, own rfl⟩
  | kt kvs => cases h; exact ⟨ad i, z.1, z.2, .inr ⟨i, ⟨_, e, rfl⟩, rfl⟩, own rfl⟩
  | b c' =>
    cases h
    obtain ⟨a, h1, h2, h3, h4⟩ := z
    exact ⟨a, h1, h4, .inl h2, h3⟩
  | _ => cases h
theorem keys_reps : ∀ {ds : List D} {vs : List V} {ks : List Key}, Reps K B H vs ds → allSome keyOf ds = some ks → vs = ks.map kV
  | [], _, _, h, e => by cases h; cases e; rfl
  | d :: ds, _, ks, h, e => by
    cases h with
    | cons a b =>
      unfold allSome at e
      cases e1 : keyOf d with
      | none => rw [e1] at e; cases e
      | some k =>
        rw [e1] at e
        cases e2 : allSome keyOf ds with
        | none => rw [e2] at e; cases e
        | some ks' =>
          rw [e2] at e
          cases e
          rw [keys_reps b e2]
          cases d with
          | int i => cases e1; cases a; rfl
          | str i => cases e1; cases a; rfl
          | _ => cases e1
theorem key_rep {d : D} {v : V} {k : Key} (h : Rep K B H v d) (e : keyOf d = some k) : v = kV k := by
  cases d with
  | int i => cases e; cases h; rfl
  | str i => cases e; cases h; rfl
  | _ => cases e
section
variable {κ : Type} [DecidableEq κ]
/-- what two rows of entries hold at a key -/
inductive OV (K : PySem.W.Frag) (B : Addr → Prop) (H : Hp) : Option V → Option D → Prop
  | no : OV K B H none none
  | so {v : V} {d : D} : Rep K B H v d → OV K B H (some v) (some d)
theorem paired_val {vs : List (κ × V)} {kvs : List (κ × D)} (r : Paired (fun (p : κ × V) (q : κ × D) => p.1 = q.1 ∧ Rep K B H p.2 q.2) vs kvs) (k : κ) : OV K B H (valV vs k) (valD kvs k) := by
  induction r with
  | nil => exact .no
  | @cons p q ps qs h t ih =>
    unfold valV valD at ih ⊢
    by_cases e : q.1 = k
    · rw [List.find?_cons_of_pos (by simpa [h.1] using e), List.find?_cons_of_pos (by simpa using e)]
      exact .so h.2
    · rw [List.find?_cons_of_neg (by simpa [h.1] using e), List.find?_cons_of_neg (by simpa using e)]
      exact ih
theorem paired_length {α β : Type} {G : α → β → Prop} {vs : List α} {kvs : List β} (r : Paired G vs kvs) : vs.length = kvs.length := by
  induction r with
  | nil => rfl
  | cons _ _ ih => simp [ih]
theorem paired_snoc {α β : Type} {G : α → β → Prop} {vs : List α} {kvs : List β} {a : α} {b : β} (r : Paired G vs kvs) (h : G a b) : Paired G (vs ++ [a]) (kvs ++ [b]) := by
  induction r with
  | nil => exact .cons h .nil
  | cons x _ ih => exact .cons x ih
theorem paired_put {vs : List (κ × V)} {kvs : List (κ × D)} (r : Paired (fun (p : κ × V) (q : κ × D) => p.1 = q.1 ∧ Rep K B H p.2 q.2) vs kvs) {k : κ} {v : V} {d : D} (h : Rep K B H v d) : Paired (fun (p : κ × V) (q : κ × D) => p.1 = q.1 ∧ Rep K B H p.2 q.2) (putK vs k v) (putD kvs k d) := by
  have hv := paired_val r k
  have e : (vs.any fun kv => decide (kv.1 = k)) = (valD kvs k).isSome := by
    rw [valV_any]
    generalize valV vs k = o1 at hv ⊢
    generalize valD kvs k = o2 at hv ⊢
    cases hv <;> rfl
  unfold putK putD
  rw [e]
  by_cases q : (valD kvs k).isSome = true
  · rw [if_pos q, if_pos q]
    clear q e hv
    induction r with
    | nil => exact .nil
    | @cons p q ps qs h' t ih =>
      rw [List.map_cons, List.map_cons]
      refine .cons ?_ ih
      by_cases e : q.1 = k
      · rw [if_pos (show p.1 = k from h'.1.trans e), if_pos e]
        exact ⟨h'.1, h⟩
      · rw [if_neg (fun z => e (h'.1.symm.trans z)), if_neg e]
        exact h'
  · rw [if_neg q, if_neg q]
    exact paired_snoc r ⟨rfl, h⟩
theorem paired_drop {vs : List (κ × V)} {kvs : List (κ × D)} (r : Paired (fun (p : κ × V) (q : κ × D) => p.1 = q.1 ∧ Rep K B H p.2 q.2) vs kvs) {k : κ} : Paired (fun (p : κ × V) (q : κ × D) => p.1 = q.1 ∧ Rep K B H p.2 q.2) (dropK vs k) (dropD kvs k) := by
  unfold dropK dropD
  induction r with
  | nil => exact .nil
  | @cons p q ps qs h' t ih =>
    rw [List.filter_cons, List.filter_cons]
    by_cases e : q.1 = k
    · rw [if_neg (by simpa using h'.1.trans e), if_neg (by simpa using e)]
      exact ih
    · rw [if_pos (by simpa using fun z => e (h'.1.symm.trans z)), if_pos (by simpa using e)]
      exact .cons h' ih
end
/-- what a dict holds -/
theorem dget_of {a : Addr} {c : Ct} {y : V} {d : D} {o : Option D} (h : HasCt K B H a c) (r : Rep K B H y d) (e : getC c d = some o) : IsD H a ∧ ∃ w, DGet H a y w ∧ OV K B H w o := by
  cases c with
  | l xs => cases e
  | k kvs =>
    obtain ⟨vs, ea, p⟩ := h
    obtain ⟨k, ek, rfl⟩ := Option.map_eq_some_iff.mp e
    rw [key_rep r ek]
    exact ⟨.inl ⟨vs, .inl ea⟩, _, DGet.k ea, paired_val p k⟩
  | t kvs =>
    obtain ⟨vs, ea, p⟩ := h
    obtain ⟨k, ek, rfl⟩ := Option.map_eq_some_iff.mp e
    cases d with
    | tuple ds =>
      obtain ⟨b, ws, rfl, h1, rr⟩ := r.tuple
      have ew := keys_reps rr ek
      subst ew
      exact ⟨.inr ⟨vs, .inl ea⟩, _, DGet.t ea h1.1, paired_val p k⟩
    | _ => cases ek
end
section
variable {CX : CXT} {k : Nat} {wd : Wd} {N : List Str} {sc : Scope} {X : Cx} {ρ : List Sl} {a b f : Expr} {pos p ap : Pos} {ra rb : R D} {x : Str} {i : Nat} {sl : Sl} {ct : Ct}
/-- d[a] -/
theorem ev_dget (cx : Cw CX k wd N sc X) (hv : visB sc x = true) (hN : N[i]? = some x) (hρ : ρ[i]? = some sl) (hc : sl.ct = some ct) (ha : Ev X wd ρ a ra) (hs : NoSl a := by exact fun _ _ => rfl) : Ev X wd ρ (.Subscript (.Name x p) a pos) (ra.bind fun y => dgetR ct y) := fun F ad σ H Q s q => by
  obtain ⟨v1, v2, v3⟩ := cx.vis hv
  obtain ⟨o, eo, _⟩ := ct_at s hρ hc
  refine be (pe_dget cx.u1 (pe_var (i := i) (by rw [cx.hN]; exact hN) v1 v2 v3) pe_b hs) ⟨_, eo, ?_⟩
  rw [wp_bind] at q
  refine ha F ad σ H _ s (wp_mono (fun y q v H1 g1 r1 => ?_) (fun _ _ z => z) q)
  obtain ⟨o', eo', hct, _⟩ := ct_at (s.grow g1) hρ hc
  rw [eo] at eo'
  cases eo'
  unfold dgetR at q
  cases e : getC ct y with
  | none => rw [e] at q; exact q.elim
  | some z =>
    rw [e] at q
    obtain ⟨_, w, hw, ov⟩ := dget_of hct r1 e
    cases ov with
    | no => exact q.elim
    | so rv => exact ⟨o, _, rfl, hw, q _ _ g1 rv⟩
/-- d.get(a, b) -/
theorem ev_dgetx (cx : Cw CX k wd N sc X) (hv : visB sc x = true) (hN : N[i]? = some x) (hρ : ρ[i]? = some sl) (hc : sl.ct = some ct) (hk : ct.isD = true) (ha : Ev X wd ρ a ra) (hb : Ev X wd ρ b rb) (m : M2 X (.Name x p) "get" ap a b pos := by exact ⟨rfl, rfl, rfl, rfl⟩) :
    Ev X wd ρ (.Call (.Attribute (.Name x p) "get" ap) [a, b] [] pos) (ra.bind fun y => rb.bind fun z => dgetxR ct y z) := fun F ad σ H Q s q => by
  obtain ⟨v1, v2, v3⟩ := cx.vis hv
  obtain ⟨o, eo, hct0, _⟩ := ct_at s hρ hc
  have isd : IsD H o := by
    cases ct with
    | l xs => cases hk
    | k kvs => obtain ⟨vs, e, _⟩ := hct0; exact .inl ⟨vs, .inl e⟩
    | t kvs => obtain ⟨vs, e, _⟩ := hct0; exact .inr ⟨vs, .inl e⟩
  refine be (pe_dget2 cx.u1 (pe_var (i := i) (by rw [cx.hN]; exact hN) v1 v2 v3) pe_b pe_b m) ⟨_, eo, o, rfl, isd, ?_⟩
  rw [wp_bind] at q
  refine ha F ad σ H _ s (wp_mono (fun y q v H1 g1 r1 => ?_) (fun _ _ z => z) q)
  rw [wp_bind] at q
  have s1 := s.grow g1
  refine hb F ad σ H1 _ s1 (wp_mono (fun z q v2 H2 g2 r2 => ?_) (fun _ _ z => z.grow g1) q)
  have s2 := s1.grow g2
  obtain ⟨o', eo', hct, _⟩ := ct_at s2 hρ hc
  rw [eo] at eo'
  cases eo'
  unfold dgetxR at q
  cases e : getC ct y with
  | none => rw [e] at q; exact q.elim
  | some w =>
    rw [e] at q
    obtain ⟨_, w', hw, ov⟩ := dget_of hct (r1.stay (s1.stays g2)) e
    refine ⟨w', hw, q _ _ (g1.trans g2) ?_⟩
    cases ov with
    | no => exact r2
    | so rv => exact rv
/-- a in d -/
theorem ev_din (cx : Cw CX k wd N sc X) (hv : visB sc x = true) (hN : N[i]? = some x) (hρ : ρ[i]? = some sl) (hc : sl.ct = some ct) (ha : Ev X wd ρ a ra) : Ev X wd ρ (.Compare a [.In] [.Name x p] pos) (ra.bind fun y => dinR ct y) := fun F ad σ H Q s q => by
  obtain ⟨v1, v2, v3⟩ := cx.vis hv
  refine be (pe_cmp (pc_din cx.u1 pe_b (pe_var (i := i) (by rw [cx.hN]; exact hN) v1 v2 v3)) rfl) ?_
  rw [wp_bind] at q
  refine ha F ad σ H _ s (wp_mono (fun y q v H1 g1 r1 => ?_) (fun _ _ z => z) q)
  obtain ⟨o, eo, hct, _⟩ := ct_at (s.grow g1) hρ hc
  unfold dinR at q
  cases e : getC ct y with
  | none => rw [e] at q; exact q.elim
  | some z =>
    rw [e] at q
    obtain ⟨_, w, hw, ov⟩ := dget_of hct r1 e
    refine ⟨_, eo, o, w, rfl, hw, ?_⟩
    have e : w.isSome = z.isSome := by cases ov <;> rfl
    rw [e]
    exact q _ _ g1 (.bl _)
theorem ev_dnin (cx : Cw CX k wd N sc X) (hv : visB sc x = true) (hN : N[i]? = some x) (hρ : ρ[i]? = some sl) (hc : sl.ct = some ct) (ha : Ev X wd ρ a ra) : Ev X wd ρ (.Compare a [.NotIn] [.Name x p] pos) (ra.bind fun y => dninR ct y) := fun F ad σ H Q s q => by
  obtain ⟨v1, v2, v3⟩ := cx.vis hv
  refine be (pe_cmp (pc_dnotin cx.u1 pe_b (pe_var (i := i) (by rw [cx.hN]; exact hN) v1 v2 v3)) rfl) ?_
  rw [wp_bind] at q
  refine ha F ad σ H _ s (wp_mono (fun y q v H1 g1 r1 => ?_) (fun _ _ z => z) q)
  obtain ⟨o, eo, hct, _⟩ := ct_at (s.grow g1) hρ hc
  unfold dninR at q
  cases e : getC ct y with
  | none => rw [e] at q; exact q.elim
  | some z =>
    rw [e] at q
    obtain ⟨_, w, hw, ov⟩ := dget_of hct r1 e
    refine ⟨_, eo, o, w, rfl, hw, ?_⟩
    have e : w.isSome = z.isSome := by cases ov <;> rfl
    rw [e]
    exact q _ _ g1 (.bl _)
/-- an expression that is a bool, as a test -/
theorem evt_of (h : Ev X wd ρ a ra) (he : ∀ whole, isTrue a X.env whole = (do let v ← whole; standAt a.pos; holding [v] (truthy v))) : EvT X wd ρ a (ra.bind fun x => boolR x) := evt_val h.look he
end
end Pu
/-! Pz: statements about objects of a def's own. -/
namespace Pu
open PySem PySem.Spec PyProof.Rows L2 R
def Ct.sl : Ct → Sl
  | .l xs => .l xs
  | .k kvs => .k kvs
  | .t kvs => .kt kvs
theorem ct_sl (c : Ct) : c.sl.ct = some c := by cases c <;> rfl
theorem sl_own (c : Ct) : c.sl.own = true := by cases c <;> rfl
theorem sl_ok {K : PySem.W.Frag} {dr : Drs} {F B : Addr → Prop} {H : Hp} {x : Option (Option V)} {a : Addr} {c : Ct} (e : x = some (some (.ref a))) (h : HasCt K B H a c) : SlOk K dr F B H x a c.sl := by
  cases c <;> exact ⟨e, h⟩
theorem ok_sl {K : PySem.W.Frag} {dr : Drs} {F B : Addr → Prop} {H : Hp} {x : Option (Option V)} {a : Addr} {c : Ct} (h : SlOk K dr F B H x a c.sl) : x = some (some (.ref a)) ∧ HasCt K B H a c := by
  cases c <;> exact h
def dputK (kvs : List (Key × D)) (k v : D) : R (List (Key × D)) := match keyOf k with
  | some k => if kvs.length < sizeLine then ret (putD kvs k v) else bad
  | none => bad
def dputT (kvs : List (List Key × D)) (k v : D) : R (List (List Key × D)) := match keysOf k with
  | some k => if kvs.length < sizeLine then ret (putD kvs k v) else bad
  | none => bad
/-- d.pop(k) -/
def dpopK (kvs : List (Key × D)) (k : D) : R (D × List (Key × D)) := match keyOf k with
  | some k => (match valD kvs k with | some v => ret (v, dropD kvs k) | none => bad)
  | none => bad
def popK {α : Type} (kvs : List (Key × D)) (y : D) (o : List (Key × D) → R α) : R α := (dpopK kvs y).bind fun z => o z.2
section
variable {CX : CXT} {k : Nat} {wd : Wd} {N : List Str} {sc : Scope} {X : Cx} {S S' S1 B B' T : Type} {eS : S → List Sl} {eS1 : S1 → List Sl} {eS' : S' → List Sl} {eB : B → List Sl} {eB' : B' → List Sl} {eT : T → List Sl} {ρ ρ1 : List Sl} {e a b tg iter elt : Expr} {ifs : List Expr} {rest A1 B1 : List Stmt} {pos p py ap : Pos} {ra rb : R D} {x : Str} {i : Nat}
/-- nothing is known any more -/
theorem run_bad {ss : List Stmt} : Run X wd eS eB eT ρ ss (bad : R (Out S B T)) := fun F ad σ H Dn sk q => q.elim
/-- x = {} -/
theorem run_newK (c : Cd CX k wd N sc X) {o : R (Out S B T)} (hx : lcB sc x = true) (hN : N[i]? = some x) (hi : wd.pin i = false) (hr : Run X wd eS eB eT (ρ.set i (.k [])) rest o)
    (hs : swapsWith (.Dict [] [] py) (some (.Name x p)) pos.line X.env = pure false := by rfl) : Run X wd eS eB eT ρ (.Assign [.Name x p] (.Dict [] [] py) pos :: rest) o := fun F ad σ H Dn sk q => by
  refine bss (pss_cons (ps_set c.nd' (c.at hN) (c.loc hx) pe_dnewK hs (.inl (c.fn x))) pss_b) ?_
  intro a ha
  exact hr F _ _ _ Dn (sk.setOwn (Grow.same (same_upd ha)) ha rfl ⟨rfl, [], upd_same, .nil⟩) (wp_adv (.trans (.setOwn ha hi) (.grow (Grow.same (same_upd ha)))) q)
theorem run_newT (c : Cd CX k wd N sc X) {o : R (Out S B T)} (hx : lcB sc x = true) (hN : N[i]? = some x) (hi : wd.pin i = false) (hr : Run X wd eS eB eT (ρ.set i (.kt [])) rest o)
    (hs : swapsWith (.Dict [] [] py) (some (.Name x p)) pos.line X.env = pure false := by rfl) : Run X wd eS eB eT ρ (.Assign [.Name x p] (.Dict [] [] py) pos :: rest) o := fun F ad σ H Dn sk q => by
  refine bss (pss_cons (ps_set c.nd' (c.at hN) (c.loc hx) pe_dnewT hs (.inl (c.fn x))) pss_b) ?_
  intro a ha
  exact hr F _ _ _ Dn (sk.setOwn (Grow.same (same_upd ha)) ha rfl ⟨rfl, [], upd_same, .nil⟩) (wp_adv (.trans (.setOwn ha hi) (.grow (Grow.same (same_upd ha)))) q)
theorem stay_upd {F : Addr → Prop} {ad : Nat → Addr} {H : Hp} {i : Nat} {o : HO} (ow : Own ρ i) : Stay (Ban F ρ ad) H (upd H (ad i) o) := fun b u eb nb => by
  rw [upd_ne fun z => nb (by rw [z]; exact .inr ⟨i, ow, rfl⟩)]
  exact eb
/-- d[a] = e, keys ints and texts -/
theorem run_dputK (c : Cd CX k wd N sc X) {kvs : List (Key × D)} {o : List (Key × D) → R (Out S B T)} (hx : visB sc x = true) (hN : N[i]? = some x) (hρ : ρ[i]? = some (.k kvs)) (hv : Ev X wd ρ e rb) (hk : Ev X wd ρ a ra) (hr : ∀ kvs, Run X wd eS eB eT (ρ.set i (.k kvs)) rest (o kvs))
    (hs : swapsWith e (some (.Subscript (.Name x p) a py)) pos.line X.env = pure false := by rfl) : Run X wd eS eB eT ρ (.Assign [.Subscript (.Name x p) a py] e pos :: rest) (rb.bind fun v => ra.bind fun y => (dputK kvs y v).bind o) := fun F ad σ H Dn sk q => by
  obtain ⟨v1, v2, v3⟩ := c.vis hx
  have ow : Own ρ i := ⟨_, hρ, rfl⟩
  refine bss (pss_cons (ps_dput c.u1 (pe_var (i := i) (c.at hN) v1 v2 v3) pe_b pe_b hs) pss_b) ?_
  refine step_ev (o := fun v => ra.bind fun y => (dputK kvs y v).bind o) hv sk q fun d v H1 g1 r1 q => ?_
  have s1 := sk.grow g1
  obtain ⟨ev, _⟩ := s1.sl i _ hρ
  refine ⟨_, ev, step_ev (o := fun y => (dputK kvs y d).bind o) hk s1 q fun y w H2 g2 r2 q => ?_⟩
  have s2 := s1.grow g2
  obtain ⟨ev2, vs, e2, pr⟩ := s2.sl i _ hρ
  unfold dputK at q
  cases ek : keyOf y with
  | none => rw [ek] at q; exact q.elim
  | some k =>
    rw [ek, wp_bind] at q
    obtain ⟨hz, q⟩ := wp_ite q
    have rv := r1.stay (s1.stays g2)
    rw [key_rep r2 ek]
    refine ⟨ad i, _, rfl, DPut.k e2 (by rw [paired_length pr]; exact hz), ?_⟩
    refine hr _ F ad σ _ Dn (s2.mut ow rfl ⟨ev2, _, upd_same, ?_⟩) (wp_adv (.mut s2 ow) q)
    exact paired_put (paired_mono (fun _ _ z => ⟨z.1, z.2.stay (stay_upd ow)⟩) pr) (rv.stay (stay_upd ow))
theorem run_dputT (c : Cd CX k wd N sc X) {kvs : List (List Key × D)} {o : List (List Key × D) → R (Out S B T)} (hx : visB sc x = true) (hN : N[i]? = some x) (hρ : ρ[i]? = some (.kt kvs)) (hv : Ev X wd ρ e rb) (hk : Ev X wd ρ a ra) (hr : ∀ kvs, Run X wd eS eB eT (ρ.set i (.kt kvs)) rest (o kvs))
    (hs : swapsWith e (some (.Subscript (.Name x p) a py)) pos.line X.env = pure false := by rfl) : Run X wd eS eB eT ρ (.Assign [.Subscript (.Name x p) a py] e pos :: rest) (rb.bind fun v => ra.bind fun y => (dputT kvs y v).bind o) := fun F ad σ H Dn sk q => by
  obtain ⟨v1, v2, v3⟩ := c.vis hx
  have ow : Own ρ i := ⟨_, hρ, rfl⟩
  refine bss (pss_cons (ps_dput c.u1 (pe_var (i := i) (c.at hN) v1 v2 v3) pe_b pe_b hs) pss_b) ?_
  refine step_ev (o := fun v => ra.bind fun y => (dputT kvs y v).bind o) hv sk q fun d v H1 g1 r1 q => ?_
  have s1 := sk.grow g1
  obtain ⟨ev, _⟩ := s1.sl i _ hρ
  refine ⟨_, ev, step_ev (o := fun y => (dputT kvs y d).bind o) hk s1 q fun y w H2 g2 r2 q => ?_⟩
  have s2 := s1.grow g2
  obtain ⟨ev2, vs, e2, pr⟩ := s2.sl i _ hρ
  unfold dputT at q
  cases ek : keysOf y with
  | none => rw [ek] at q; exact q.elim
  | some k =>
    rw [ek, wp_bind] at q
    obtain ⟨hz, q⟩ := wp_ite q
    have rv := r1.stay (s1.stays g2)
    cases y with
    | tuple ds =>
      obtain ⟨b, ws, rfl, h1, rr⟩ := r2.tuple
      have ew := keys_reps rr ek
      subst ew
      refine ⟨ad i, _, rfl, DPut.t e2 h1.1 (by rw [paired_length pr]; exact hz), ?_⟩
      refine hr _ F ad σ _ Dn (s2.mut ow rfl ⟨ev2, _, upd_same, ?_⟩) (wp_adv (.mut s2 ow) q)
      exact paired_put (paired_mono (fun _ _ z => ⟨z.1, z.2.stay (stay_upd ow)⟩) pr) (rv.stay (stay_upd ow))
    | _ => cases ek
/-- d.pop(a) -/
theorem run_dpopK (c : Cd CX k wd N sc X) {kvs : List (Key × D)} {o : List (Key × D) → R (Out S B T)} (hx : visB sc x = true) (hN : N[i]? = some x) (hρ : ρ[i]? = some (.k kvs)) (hk : Ev X wd ρ a ra) (hr : ∀ kvs, Run X wd eS eB eT (ρ.set i (.k kvs)) rest (o kvs))
    (m : M1 X (.Name x p) "pop" ap a pos := by exact ⟨rfl, rfl, rfl, rfl⟩) : Run X wd eS eB eT ρ (.Expr (.Call (.Attribute (.Name x p) "pop" ap) [a] [] pos) py :: rest) (ra.bind fun y => popK kvs y o) := fun F ad σ H Dn sk q => by
  obtain ⟨v1, v2, v3⟩ := c.vis hx
  have ow : Own ρ i := ⟨_, hρ, rfl⟩
  refine bss (pss_cons (ps_expr (pe_dpop1 (pe_var (i := i) (c.at hN) v1 v2 v3) pe_b m)) pss_b) ?_
  obtain ⟨ev, vs0, e0, _⟩ := sk.sl i _ hρ
  refine ⟨_, ev, ad i, rfl, .inl ⟨vs0, .inl e0⟩, step_ev (o := fun y => (dpopK kvs y).bind fun z => o z.2) hk sk q fun y w H2 g2 r2 q => ?_⟩
  have s2 := sk.grow g2
  obtain ⟨ev2, vs, e2, pr⟩ := s2.sl i _ hρ
  unfold dpopK at q
  cases ek : keyOf y with
  | none => rw [ek] at q; exact q.elim
  | some k =>
    rw [ek] at q
    simp only at q
    have hv := paired_val pr k
    cases evd : valD kvs k with
    | none => rw [evd] at q; exact q.elim
    | some d =>
      rw [evd] at q hv
      generalize hw : valV vs k = ov at hv
      cases hv with
      | so rv =>
        rw [key_rep r2 ek]
        refine ⟨vs, k, _, e2, rfl, hw, ?_⟩
        exact hr _ F ad σ _ Dn (s2.mut ow rfl ⟨ev2, _, upd_same, paired_drop (paired_mono (fun _ _ z => ⟨z.1, z.2.stay (stay_upd ow)⟩) pr)⟩) (wp_adv (.mut s2 ow) q)
end
/-! ### calls with objects -/
inductive Ar where
  | d (x : D) | b (c : Ct) | o (c : Ct) | w
def Ar.sl : Ar → Sl
  | .d x => .d x
  | .b c => .b c
  | .o c => c.sl
  | .w => .w
/-- arguments: data, borrowed objects, objects that the def may change, the draws -/
inductive ArsOk (K : PySem.W.Frag) (dr : Drs) (F B : Addr → Prop) (H : Hp) : List V → List Ar → List Addr → Prop
  | nil : ArsOk K dr F B H [] [] []
  | d {v : V} {x : D} {vs : List V} {as : List Ar} {os : List Addr} : Rep K B H v x → ArsOk K dr F B H vs as os → ArsOk K dr F B H (v :: vs) (.d x :: as) os
  | b {e : Addr} {c : Ct} {vs : List V} {as : List Ar} {os : List Addr} : F e → ¬ Has dr e → HasCt K B H e c → ArsOk K dr F B H vs as os → ArsOk K dr F B H (.ref e :: vs) (.b c :: as) os
  | o {e : Addr} {c : Ct} {vs : List V} {as : List Ar} {os : List Addr} : ¬ Has dr e → HasCt K B H e c → ArsOk K dr F B H vs as os → ArsOk K dr F B H (.ref e :: vs) (.o c :: as) (e :: os)
  | w {e l : Addr} {vs : List V} {as : List Ar} {os : List Addr} : dr = some (e, l) → ArsOk K dr F B H vs as os → ArsOk K dr F B H (.ref e :: vs) (.w :: as) os
/-- what they hold behind the call -/
inductive OutsOk (K : PySem.W.Frag) (B : Addr → Prop) (H : Hp) : List Addr → List Ct → Prop
  | nil : OutsOk K B H [] []
  | cons {a : Addr} {c : Ct} {os : List Addr} {cs : List Ct} : HasCt K B H a c → OutsOk K B H os cs → OutsOk K B H (a :: os) (c :: cs)
structure GrowO (dr : Drs) (os : List Addr) (H H' : Hp) : Prop where
  keep : ∀ b o, H b = some o → ¬ Has dr b → b ∉ os → H' b = some o
  draw : ∀ a l, dr = some (a, l) → DrAt H a l → DrAt H' a l
theorem GrowO.of {dr : Drs} {os : List Addr} {H H1 H' : Hp} (g : Grow dr H H1) (h : GrowO dr os H1 H') : GrowO dr os H H' := ⟨fun b o e n m => h.keep b o (g.keep b o e n) n m, fun a l e d => h.draw a l e (g.draw a l e d)⟩
theorem GrowO.nil {dr : Drs} {H H' : Hp} (h : GrowO dr [] H H') : Grow dr H H' := ⟨fun b o e n => h.keep b o e n (by simp), h.draw⟩
/-- a def with objects: m of its arguments, fd the value, fo what the objects hold behind it; own: it may hand back new objects -/
def spX (K : PySem.W.Frag) (own : Bool) {β : Type} (fd : β → D) (fo : β → List Ct) (m : List Ar → R β) : Sp := fun vs H Q _ => ∃ (dr : Drs) (F : Addr → Prop) (as : List Ar) (os : List Addr),
  Fo K H F ∧ (∀ a l, dr = some (a, l) → F a ∧ F l ∧ l ≠ a ∧ DrAt H a l) ∧ os.Nodup ∧ (∀ a ∈ os, ¬ F a) ∧ ArsOk K dr F (fun b => F b ∨ b ∈ os) H vs as os ∧
  (m as).wp (fun r => ∀ v H', GrowO dr os H H' → OutsOk K (fun b => F b ∨ b ∈ os) H' os (fo r) → RetO own dr K (fun a => H a = none) (fun b => F b ∨ b ∈ os) H' v (fd r) → Q v H') fun _ _ => False
section
variable {K : PySem.W.Frag} {dr : Drs} {F F' B B' : Addr → Prop} {H H' : Hp} {vs : List V} {as : List Ar} {os : List Addr}
theorem ArsOk.there (h : ArsOk K dr F B H vs as os) : ∀ a ∈ os, ∃ o, H a = some o := by
  induction h with
  | nil => simp
  | d _ _ ih => exact ih
  | b _ _ _ _ ih => exact ih
  | o _ c _ ih =>
    intro a ha
    rcases List.mem_cons.mp ha with rfl | ha
    · exact c.some
    · exact ih a ha
  | w _ _ ih => exact ih
theorem ArsOk.grow (h : ArsOk K dr F B H vs as os) (st : Stay B H H') (g : Grow dr H H') : ArsOk K dr F B H' vs as os := by
  induction h with
  | nil => exact .nil
  | d r _ ih => exact .d (r.stay st) ih
  | b f n c _ ih => exact .b f n (c.mono (fun _ _ r => r.stay st) (fun _ _ r => r.stay st) fun o eo => g.keep _ o eo n) ih
  | o n c _ ih => exact .o n (c.mono (fun _ _ r => r.stay st) (fun _ _ r => r.stay st) fun o eo => g.keep _ o eo n) ih
  | w e _ ih => exact .w e ih
theorem ArsOk.append {vs' : List V} {as' : List Ar} {os' : List Addr} (h : ArsOk K dr F B H vs as os) (h' : ArsOk K dr F B H vs' as' os') : ArsOk K dr F B H (vs ++ vs') (as ++ as') (os ++ os') := by
  induction h with
  | nil => exact h'
  | d r _ ih => exact .d r ih
  | b f n c _ ih => exact .b f n c ih
  | o n c _ ih => exact .o n c ih
  | w e _ ih => exact .w e ih
theorem ArsOk.length (h : ArsOk K dr F B H vs as os) : vs.length = as.length := by
  induction h with
  | nil => rfl
  | d r _ ih => simp [ih]
  | b f n c _ ih => simp [ih]
  | o n c _ ih => simp [ih]
  | w e _ ih => simp [ih]
end
/-- what is foreign to a def that may change the slots I -/
def FX (F : Addr → Prop) (ρ : List Sl) (ad : Nat → Addr) (I : List Nat) (b : Addr) : Prop := F b ∨ ∃ j, j ∉ I ∧ Own ρ j ∧ ad j = b
/-- M: the arguments es (behind pre, with the objects of J so far), then m -/
def CallS (X : Cx) (wd : Wd) (ρ : List Sl) (I J : List Nat) (pre : List Ar) (es : List Expr) {β : Type} (M : R β) (m : List Ar → R β) : Prop := ∀ (F : Addr → Prop) (ad : Nat → Addr) (σ : L2.St) (H H0 : Hp) (QQ : β → Prop) (EE : Nat → D → Prop) (vs0 : List V), StOk X.K wd.dr F ρ σ H ad → Grow wd.dr H0 H →
  ArsOk X.K wd.dr (FX F ρ ad I) (Ban F ρ ad) H vs0 pre (J.map ad) → (∀ c x, EE c x → XP X wd F ρ ad H0 c x) → M.wp QQ EE →
  BA X es σ H fun vs H1 => Grow wd.dr H0 H1 ∧ ∃ as, ArsOk X.K wd.dr (FX F ρ ad I) (Ban F ρ ad) H1 (vs0 ++ vs) as (I.map ad) ∧ (m as).wp QQ EE
section
variable {CX : CXT} {k : Nat} {wd : Wd} {N : List Str} {sc : Scope} {X : Cx} {ρ : List Sl} {I J : List Nat} {pre : List Ar} {es : List Expr} {a : Expr} {ra : R D} {pos p : Pos} {x : Str} {i : Nat} {β : Type} {m : List Ar → R β}
theorem cs_nil (hI : J = I) : CallS X wd ρ I J pre [] (m pre) m := fun F ad σ H H0 QQ EE vs0 s g h _ q => by
  subst hI
  exact ba pa_nil ⟨g, pre, by rw [List.append_nil]; exact h, q⟩
theorem cs_d {M : D → R β} (ha : Ev X wd ρ a ra) (hr : ∀ d, CallS X wd ρ I J (pre ++ [.d d]) es (M d) m) (hs : Plain X a := by exact fun _ => rfl) : CallS X wd ρ I J pre (a :: es) (ra.bind M) m := fun F ad σ H H0 QQ EE vs0 s g h hE q => by
  refine ba (pa_cons pe_b pa_b (hs _)) ?_
  rw [wp_bind] at q
  refine ha F ad σ H _ s (wp_mono (fun d q v H1 g1 r1 => ?_) (fun c x z => (hE c x z).grow g) q)
  have s1 := s.grow g1
  have := hr d F ad σ H1 H0 QQ EE (vs0 ++ [v]) s1 (g.trans g1) (by
    have := (h.grow (s.stays g1) g1).append (ArsOk.d r1 .nil)
    rw [List.append_nil] at this
    exact this) hE q
  refine fun pos pins s' I' => thn (this pos pins s' I') fun us s'' ⟨vs, H2, I2, rr, hq⟩ => ⟨vs, H2, I2, rr, ?_⟩
  obtain ⟨h1, as, h2, h3⟩ := hq
  rw [List.append_assoc] at h2
  exact ⟨h1, as, h2, h3⟩
theorem cs_var {M : R β} {ar : Ar} {os : List Nat} (c : Cw CX k wd N sc X) (hv : visB sc x = true) (hN : N[i]? = some x)
    (har : ∀ (F : Addr → Prop) (ad : Nat → Addr) (σ : L2.St) (H : Hp), StOk X.K wd.dr F ρ σ H ad → ∃ v, σ[i]? = some (some v) ∧ ArsOk X.K wd.dr (FX F ρ ad I) (Ban F ρ ad) H [v] [ar] (os.map ad))
    (hr : CallS X wd ρ I (J ++ os) (pre ++ [ar]) es M m) : CallS X wd ρ I J pre (.Name x p :: es) M m := fun F ad σ H H0 QQ EE vs0 s g h hE q => by
  obtain ⟨v1, v2, v3⟩ := c.vis hv
  obtain ⟨v, ev, ha⟩ := har F ad σ H s
  refine ba (pa_cons (pe_var (i := i) (by rw [c.hN]; exact hN) v1 v2 v3) pa_b rfl) ⟨v, ev, ?_⟩
  have := hr F ad σ H H0 QQ EE (vs0 ++ [v]) s g (by
    rw [List.map_append]
    exact h.append ha) hE q
  refine fun pos pins s' I' => thn (this pos pins s' I') fun us s'' ⟨vs, H2, I2, rr, hq⟩ => ⟨vs, H2, I2, rr, ?_⟩
  obtain ⟨h1, as, h2, h3⟩ := hq
  rw [List.append_assoc] at h2
  exact ⟨h1, as, h2, h3⟩
/-- an object that the def only looks at -/
theorem cs_b (c : Cw CX k wd N sc X) {M : R β} {sl : Sl} {ct : Ct} (hv : visB sc x = true) (hN : N[i]? = some x) (hρ : ρ[i]? = some sl) (hc : sl.ct = some ct) (hI : i ∉ I) (hr : CallS X wd ρ I J (pre ++ [.b ct]) es M m) : CallS X wd ρ I J pre (.Name x p :: es) M m :=
  cs_var c (os := []) hv hN (fun F ad σ H s => by
    obtain ⟨a, e, h, _, hd⟩ := ct_at s hρ hc
    refine ⟨_, e, .b ?_ hd h .nil⟩
    have z := s.sl i sl hρ
    cases sl with
    | b c' =>
      obtain ⟨a', h1, h2, _⟩ := z
      rw [e] at h1
      cases h1
      exact .inl h2
    | l xs => have := z.1; rw [e] at this; cases this; exact .inr ⟨i, hI, ⟨_, hρ, rfl⟩, rfl⟩
    | k xs => have := z.1; rw [e] at this; cases this; exact .inr ⟨i, hI, ⟨_, hρ, rfl⟩, rfl⟩
    | kt xs => have := z.1; rw [e] at this; cases this; exact .inr ⟨i, hI, ⟨_, hρ, rfl⟩, rfl⟩
    | _ => cases hc) (by rw [List.append_nil]; exact hr)
/-- an object that the def may change -/
theorem cs_o (c : Cw CX k wd N sc X) {M : R β} {sl : Sl} {ct : Ct} (hv : visB sc x = true) (hN : N[i]? = some x) (hρ : ρ[i]? = some sl) (hc : ct.sl = sl) (hr : CallS X wd ρ I (J ++ [i]) (pre ++ [.o ct]) es M m) : CallS X wd ρ I J pre (.Name x p :: es) M m :=
  cs_var c (os := [i]) hv hN (fun F ad σ H s => by
    subst hc
    obtain ⟨e, h⟩ := ok_sl (s.sl i _ hρ)
    exact ⟨_, e, .o (fun z => s.nf i ⟨_, hρ, sl_own ct⟩ (s.dF z)) h .nil⟩) hr
/-- the draws -/
theorem cs_w (c : Cw CX k wd N sc X) {M : R β} (hv : visB sc x = true) (hN : N[i]? = some x) (hρ : ρ[i]? = some .w) (hr : CallS X wd ρ I J (pre ++ [.w]) es M m) : CallS X wd ρ I J pre (.Name x p :: es) M m :=
  cs_var c (os := []) hv hN (fun F ad σ H s => by
    obtain ⟨b, l, e1, e2⟩ := s.sl i _ hρ
    exact ⟨_, e2, .w e1 .nil⟩) (by rw [List.append_nil]; exact hr)
end
/-! ### behind a call -/
def setC : List Sl → List Nat → List Ct → List Sl
  | ρ, i :: I, c :: cs => setC (ρ.set i c.sl) I cs
  | ρ, _, _ => ρ
theorem own_sets {ρ : List Sl} {i j : Nat} {c : Ct} (oi : Own ρ i) : Own (ρ.set i c.sl) j ↔ Own ρ j := by
  by_cases h : j = i
  · subst h
    refine ⟨fun _ => oi, fun _ => ⟨c.sl, ?_, sl_own c⟩⟩
    obtain ⟨s, e, _⟩ := oi
    rw [List.getElem?_set_self]
    exact (List.getElem?_eq_some_iff.mp e).1
  · constructor
    · rintro ⟨s, e, q⟩
      rw [List.getElem?_set_ne (Ne.symm h)] at e
      exact ⟨s, e, q⟩
    · rintro ⟨s, e, q⟩
      exact ⟨s, by rw [List.getElem?_set_ne (Ne.symm h)]; exact e, q⟩
theorem own_setC : ∀ {I : List Nat} {cs : List Ct} {ρ : List Sl}, (∀ i ∈ I, Own ρ i) → ∀ j, Own (setC ρ I cs) j ↔ Own ρ j
  | [], cs, ρ, _, j => by cases cs <;> exact Iff.rfl
  | i :: I, [], ρ, _, j => Iff.rfl
  | i :: I, c :: cs, ρ, h, j => by
    have oi := h i List.mem_cons_self
    exact (own_setC (I := I) (cs := cs) (ρ := ρ.set i c.sl) (fun i' hi => (own_sets oi).mpr (h i' (List.mem_cons_of_mem _ hi))) j).trans (own_sets oi)
theorem setC_length : ∀ {I : List Nat} {cs : List Ct} {ρ : List Sl}, (setC ρ I cs).length = ρ.length
  | [], cs, ρ => by cases cs <;> rfl
  | i :: I, [], ρ => rfl
  | i :: I, c :: cs, ρ => by
    unfold setC
    rw [setC_length, List.length_set]
theorem setC_at {K : PySem.W.Frag} {B : Addr → Prop} {H : Hp} {ad : Nat → Addr} : ∀ {I : List Nat} {cs : List Ct} {ρ : List Sl}, I.Nodup → OutsOk K B H (I.map ad) cs → ∀ {j : Nat} {s : Sl}, (setC ρ I cs)[j]? = some s → (j ∈ I ∧ ∃ c : Ct, s = c.sl ∧ HasCt K B H (ad j) c) ∨ (j ∉ I ∧ ρ[j]? = some s)
  | [], cs, ρ, _, _, j, s, e => by cases cs <;> exact .inr ⟨by simp, e⟩
  | i :: I, [], ρ, _, h, j, s, e => by cases h
  | i :: I, c :: cs, ρ, nd, h, j, s, e => by
    rw [List.map_cons] at h
    cases h with
    | cons h1 h2 =>
      rw [List.nodup_cons] at nd
      rcases setC_at (ρ := ρ.set i c.sl) nd.2 h2 e with ⟨hj, z⟩ | ⟨hj, z⟩
      · exact .inl ⟨List.mem_cons_of_mem _ hj, z⟩
      · by_cases hi : j = i
        · subst hi
          have hl : j < ρ.length := by
            have := (List.getElem?_eq_some_iff.mp z).1
            rw [List.length_set] at this
            exact this
          rw [List.getElem?_set_self hl] at z
          cases z
          exact .inl ⟨List.mem_cons_self, c, rfl, h1⟩
        · rw [List.getElem?_set_ne (Ne.symm hi)] at z
          exact .inr ⟨fun m => by
            rcases List.mem_cons.mp m with m | m
            · exact hi m
            · exact hj m, z⟩
section
variable {K : PySem.W.Frag} {F : Addr → Prop} {ρ : List Sl} {σ : L2.St} {H H' : Hp} {ad : Nat → Addr} {I : List Nat} {cs : List Ct}
theorem StOk.call {dr : Drs} (s : StOk K dr F ρ σ H ad) (hI : ∀ i ∈ I, Own ρ i) (nd : I.Nodup) (g : GrowO dr (I.map ad) H H') (ho : OutsOk K (Ban F ρ ad) H' (I.map ad) cs) : StOk K dr F (setC ρ I cs) σ H' ad := by
  have ow := fun j => own_setC (I := I) (cs := cs) (ρ := ρ) hI j
  have bn : ∀ b, Ban F (setC ρ I cs) ad b → Ban F ρ ad b := by
    rintro b (z | ⟨j, o, e⟩)
    · exact .inl z
    · exact .inr ⟨j, (ow j).mp o, e⟩
  have nF : ∀ {b}, F b → b ∉ I.map ad := fun {b} fb hm => by
    obtain ⟨i, hi, e⟩ := List.mem_map.mp hm
    exact s.nf i (hI i hi) (by rw [e]; exact fb)
  have st : Stay (Ban F ρ ad) H H' := fun b o e nb => g.keep b o e (fun z => nb (s.drF z)) fun hm => by
    obtain ⟨i, hi, e⟩ := List.mem_map.mp hm
    exact nb (.inr ⟨i, hI i hi, e⟩)
  refine ⟨by rw [setC_length]; exact s.len, fun a b x y => s.inj a b ((ow a).mp x) ((ow b).mp y), fun a x => s.nf a ((ow a).mp x), fun b fb => ?_, fun a l e => ?_, fun P k => g.keep _ _ (s.tb P k) (fun ⟨a, l, e, z⟩ => (s.dk a l e).2.2.2.noT z (s.tb P k)) (fun hm => by
    obtain ⟨i, hi, e⟩ := List.mem_map.mp hm
    exact s.ownT (hI i hi) (by rw [e]; exact s.tb P k)), fun j sl e => ?_⟩
  · obtain ⟨o, e, nt⟩ := s.fa b fb
    by_cases z : Has dr b
    · obtain ⟨a, l, ea, z⟩ := z
      obtain ⟨_, _, _, q⟩ := s.dk a l ea
      have q := g.draw a l ea q
      rcases z with rfl | rfl
      · exact q.bd
      · exact q.bdl
    · exact ⟨o, g.keep b o e z (nF fb), nt⟩
  · obtain ⟨f, fl, ne, q⟩ := s.dk a l e
    exact ⟨f, fl, ne, g.draw a l e q⟩
  · rcases setC_at nd ho e with ⟨hj, c, rfl, h⟩ | ⟨hj, e⟩
    · obtain ⟨s0, e0, q0⟩ := hI j hj
      have hs : σ[j]? = some (some (.ref (ad j))) := by
        have z := s.sl j s0 e0
        cases s0 with
        | l xs => exact z.1
        | k xs => exact z.1
        | kt xs => exact z.1
        | _ => cases q0
      exact sl_ok hs (h.mono (fun _ _ r => r.weak bn) (fun _ _ r => r.weak bn) fun _ q => q)
    · refine (s.sl j sl e).mono (fun v d r => (r.stay st).weak bn) (fun v d r => (r.stay st).weak bn) (fun hs o eo => ?_) (fun _ z => z) (fun e' o fe n eo => g.keep e' o eo n (nF fe))
      refine g.keep _ o eo (fun z => s.nf j ⟨_, e, hs⟩ (s.dF z)) fun hm => ?_
      obtain ⟨i, hi, ei⟩ := List.mem_map.mp hm
      have := s.inj i j (hI i hi) ⟨_, e, hs⟩ ei
      subst this
      exact hj hi
theorem Adv.call {wd : Wd} (s : StOk K wd.dr F ρ σ H ad) (hI : ∀ i ∈ I, Own ρ i) (g : GrowO wd.dr (I.map ad) H H') : Adv wd ρ ad H (setC ρ I cs) ad H' := by
  refine ⟨fun b o e n m => ⟨g.keep b o e n fun hm => ?_, fun ⟨j, oj, ej⟩ => m ⟨j, (own_setC hI j).mp oj, ej⟩⟩, g.draw, fun _ _ => rfl⟩
  obtain ⟨i, hi, ei⟩ := List.mem_map.mp hm
  exact m ⟨i, hI i hi, ei⟩
end
end Pu
/-! Pcl: calls with objects; defs with objects. -/
namespace Pu
open PySem PySem.Spec PyProof.Rows L2 R
theorem XPs.no {X : Cx} {wd : Wd} (W : NoW wd) {F : Addr → Prop} {ρ : List Sl} {ad : Nat → Addr} {σ : L2.St} {H : Hp} (st : StOk X.K wd.dr F ρ σ H ad) {c : Nat} {x : D} (h : XPs X wd F ρ ad H c x) : False := W.xp (h.xp st)
theorem ban_eq {F : Addr → Prop} {ρ : List Sl} {ad : Nat → Addr} {I : List Nat} (hI : ∀ i ∈ I, Own ρ i) : (fun b => FX F ρ ad I b ∨ b ∈ I.map ad) = Ban F ρ ad := by
  funext b
  apply propext
  constructor
  · rintro ((z | ⟨j, _, o, e⟩) | z)
    · exact .inl z
    · exact .inr ⟨j, o, e⟩
    · obtain ⟨i, hi, e⟩ := List.mem_map.mp z
      exact .inr ⟨i, hI i hi, e⟩
  · rintro (z | ⟨j, o, e⟩)
    · exact .inl (.inl z)
    · by_cases hj : j ∈ I
      · exact .inr (List.mem_map.mpr ⟨j, hj, e⟩)
      · exact .inl (.inr ⟨j, hj, o, e⟩)
theorem nodup_ads {K : PySem.W.Frag} {dr : Drs} {F : Addr → Prop} {ρ : List Sl} {σ : L2.St} {H : Hp} {ad : Nat → Addr} (s : StOk K dr F ρ σ H ad) : ∀ {I : List Nat}, (∀ i ∈ I, Own ρ i) → I.Nodup → (I.map ad).Nodup
  | [], _, _ => List.nodup_nil
  | i :: I, h, nd => by
    rw [List.nodup_cons] at nd
    rw [List.map_cons, List.nodup_cons]
    refine ⟨fun z => ?_, nodup_ads s (fun j hj => h j (List.mem_cons_of_mem _ hj)) nd.2⟩
    obtain ⟨j, hj, e⟩ := List.mem_map.mp z
    have := s.inj j i (h j (List.mem_cons_of_mem _ hj)) (h i List.mem_cons_self) e
    subst this
    exact nd.1 hj
section
variable {CX : CXT} {k j : Nat} {wd : Wd} {N : List Str} {sc : Scope} {X : Cx} {ρ : List Sl} {I : List Nat} {es : List Expr} {e : Expr} {pos p py : Pos} {f x : Str} {i : Nat} {β : Type} {m : List Ar → R β} {fd : β → D} {fo : β → List Ct} {own : Bool} {M : R β}
theorem call_read [Calm wd] (c : Cw CX k wd N sc X) (W : NoW wd) (G : Df X.prog X.w X.K X.mg X.base CX j f (spX X.K own fd fo m)) (hj : j ≤ k) (hg : glB sc f = true) (hI : ∀ i ∈ I, Own ρ i) (nd : I.Nodup) (hcs : CallS X wd ρ I [] [] (e :: es) M m)
    (he : starEach (e :: es) X.env = (false, eval e X.env) :: starEach es X.env) (hpl : (backTo pos (starEach es X.env)).any (·.1) = false) {F : Addr → Prop} {ad : Nat → Addr} {σ : L2.St} {H : Hp} (s : StOk X.K wd.dr F ρ σ H ad) {Q : VK}
    (q : M.wp (fun r => ∀ v H', GrowO wd.dr (I.map ad) H H' → OutsOk X.K (Ban F ρ ad) H' (I.map ad) (fo r) → RetO own wd.dr X.K (fun a => H a = none) (Ban F ρ ad) H' v (fd r) → Q v H') fun _ _ => False) : BE X (.Call (.Name f p) (e :: es) [] pos) σ H Q := by
  obtain ⟨fa, fdd, ps, h1, h2, h3, h4⟩ := G.ok
  refine be (pe_call h4 (c.room.mono hj) (c.gl hg).1 h1 h2 h3 .nil c.ps pa_b (c.gl hg).2.1 he hpl) ?_
  have := hcs F ad σ H H _ (fun _ _ => False) [] s (Grow.refl _ _) .nil (fun _ _ z => z.elim) q
  refine fun pos pins s' I' => thn (this pos pins s' I') fun us s'' ⟨vs, H1, I2, rr, g1, as, ha, hw⟩ => ⟨vs, H1, I2, rr, ?_⟩
  have s1 := s.grow g1
  refine ⟨wd.dr, FX F ρ ad I, as, I.map ad, ?_, fun a l ea => ?_, nodup_ads s hI nd, ?_, ?_, ?_⟩
  · refine ⟨?_, s1.tb⟩
    rintro b (z | ⟨j, _, o, e⟩)
    · exact s1.fa b z
    · subst e; exact s1.there o
  · obtain ⟨fa, fl, ne, q⟩ := s1.dk a l ea
    exact ⟨.inl fa, .inl fl, ne, q⟩
  · intro a ha
    obtain ⟨i, hi, ei⟩ := List.mem_map.mp ha
    rintro (z | ⟨j, hj, o, e⟩)
    · exact s.nf i (hI i hi) (by rw [ei]; exact z)
    · have := s.inj j i o (hI i hi) (by rw [e, ei])
      subst this
      exact hj hi
  · rw [ban_eq hI, List.append_nil]
    rw [List.nil_append] at ha
    exact ha
  · rw [ban_eq hI]
    exact wp_mono (fun r z v H' g o rt => z v H' (GrowO.of g1 g) o (rt.mono fun a n hn => free_grow s g1 hn)) (fun _ _ z => z) hw
/-- a call as a value: nothing of the def's own is changed -/
theorem ev_callX [Calm wd] (c : Cw CX k wd N sc X) (W : NoW wd) {m : List Ar → R D} {M : R D} (G : Df X.prog X.w X.K X.mg X.base CX j f (spX X.K false id (fun _ => []) m)) (hj : j ≤ k) (hg : glB sc f = true) (hcs : CallS X wd ρ [] [] [] (e :: es) M m)
    (he : starEach (e :: es) X.env = (false, eval e X.env) :: starEach es X.env := by rfl) (hpl : (backTo pos (starEach es X.env)).any (·.1) = false := by rfl) : Ev X wd ρ (.Call (.Name f p) (e :: es) [] pos) M := fun F ad σ H Q s q =>
  call_read c W G hj hg (I := []) (by simp) List.nodup_nil hcs he hpl s (wp_mono (fun r z v H' g o rt => z v H' (GrowO.nil g) (rt.rep rfl)) (fun _ _ z => W.xp z) q)
section
variable {S S1 B T : Type} {eS : S → List Sl} {eS1 : S1 → List Sl} {eB : B → List Sl} {eT : T → List Sl} {rest A1 B1 : List Stmt}
/-- the slots behind a call -/
theorem step_call [Calm wd] (c : Cw CX k wd N sc X) (W : NoW wd) (G : Df X.prog X.w X.K X.mg X.base CX j f (spX X.K own fd fo m)) (hj : j ≤ k) (hg : glB sc f = true) (hI : ∀ i ∈ I, Own ρ i) (nd : I.Nodup) (hcs : CallS X wd ρ I [] [] (e :: es) M m)
    (he : starEach (e :: es) X.env = (false, eval e X.env) :: starEach es X.env) (hpl : (backTo pos (starEach es X.env)).any (·.1) = false) {F : Addr → Prop} {ad : Nat → Addr} {σ : L2.St} {H : Hp} {Dn : Ends} (s : StOk X.K wd.dr F ρ σ H ad) {Q : VK} {o : β → R (Out S B T)}
    (q : (M.bind o).wp (OutOk X wd eS eB eT F ρ ad H Dn) (XPs X wd F ρ ad H))
    (h : ∀ r v H', StOk X.K wd.dr F (setC ρ I (fo r)) σ H' ad → GrowO wd.dr (I.map ad) H H' → RetO own wd.dr X.K (fun a => H a = none) (Ban F ρ ad) H' v (fd r) → (o r).wp (OutOk X wd eS eB eT F (setC ρ I (fo r)) ad H' Dn) (XPs X wd F (setC ρ I (fo r)) ad H') → Q v H') : BE X (.Call (.Name f p) (e :: es) [] pos) σ H Q := by
  rw [wp_bind] at q
  refine call_read c W G hj hg hI nd hcs he hpl s (wp_mono (fun r q v H' g ou rt => ?_) (fun _ _ z => z.no W s) q)
  exact h r v H' (s.call hI nd g ou) g rt (wp_adv (.call s hI g) q)
theorem ban_setC {F : Addr → Prop} {ad : Nat → Addr} {cs : List Ct} (hI : ∀ i ∈ I, Own ρ i) {b : Addr} (h : Ban F (setC ρ I cs) ad b) : Ban F ρ ad b := h.imp id fun ⟨j, o, e⟩ => ⟨j, (own_setC hI j).mp o, e⟩
/-- f(..) alone -/
theorem run_callE [Calm wd] (c : Cd CX k wd N sc X) (W : NoW wd) (G : Df X.prog X.w X.K X.mg X.base CX j f (spX X.K own fd fo m)) (hj : j ≤ k) (hg : glB sc f = true) (hI : ∀ i ∈ I, Own ρ i) (nd : I.Nodup) (hcs : CallS X wd ρ I [] [] (e :: es) M m) {o : β → R (Out S B T)} (hr : ∀ r, Run X wd eS eB eT (setC ρ I (fo r)) rest (o r))
    (he : starEach (e :: es) X.env = (false, eval e X.env) :: starEach es X.env := by rfl) (hpl : (backTo pos (starEach es X.env)).any (·.1) = false := by rfl) (hs : swapsWith (.Call (.Name f p) (e :: es) [] pos) none py.line X.env = pure false := by rfl) : Run X wd eS eB eT ρ (.Expr (.Call (.Name f p) (e :: es) [] pos) py :: rest) (M.bind o) := fun F ad σ H Dn s q =>
  bss (pss_cons (ps_expr pe_b hs) pss_b) (step_call c.toCw W G hj hg hI nd hcs he hpl s q fun r v H' s' _ _ q => hr r F ad σ H' Dn s' q)
/-- x = f(..), data -/
theorem run_callS [Calm wd] (c : Cd CX k wd N sc X) (W : NoW wd) (G : Df X.prog X.w X.K X.mg X.base CX j f (spX X.K false fd fo m)) (hj : j ≤ k) (hg : glB sc f = true) (hI : ∀ i ∈ I, Own ρ i) (nd : I.Nodup) (hx : lcB sc x = true) (hN : N[i]? = some x) (hcs : CallS X wd ρ I [] [] (e :: es) M m) {o : β → R (Out S B T)} (hr : ∀ r, Run X wd eS eB eT ((setC ρ I (fo r)).set i (.d (fd r))) rest (o r))
    (he : starEach (e :: es) X.env = (false, eval e X.env) :: starEach es X.env := by rfl) (hpl : (backTo pos (starEach es X.env)).any (·.1) = false := by rfl) {px : Pos} (hs2 : swapsWith (.Call (.Name f p) (e :: es) [] pos) (some (.Name x px)) py.line X.env = pure false := by rfl) : Run X wd eS eB eT ρ (.Assign [.Name x px] (.Call (.Name f p) (e :: es) [] pos) py :: rest) (M.bind o) := fun F ad σ H Dn s q =>
  bss (pss_cons (ps_set c.nd' (c.at hN) (c.loc hx) pe_b hs2 (.inl (c.fn x))) pss_b) (step_call c.toCw W G hj hg hI nd hcs he hpl s q fun r v H' s' _ rt q =>
    hr r F ad (σ.set i (some v)) H' Dn (s'.set ((rt.rep rfl).weak fun b z => ban_setC hI z)) (wp_adv .set q))
/-- if f(..): .., the last of its block -/
theorem run_ifC1 [Calm wd] (c : Cd CX k wd N sc X) (W : NoW wd) (G : Df X.prog X.w X.K X.mg X.base CX j f (spX X.K false fd fo m)) (hj : j ≤ k) (hg : glB sc f = true) (hI : ∀ i ∈ I, Own ρ i) (nd : I.Nodup) (hcs : CallS X wd ρ I [] [] (e :: es) M m) {oa ob : β → R (Out S B T)}
    (hA : ∀ r, Run X wd eS eB eT (setC ρ I (fo r)) A1 (oa r)) (hB : ∀ r, Run X wd eS eB eT (setC ρ I (fo r)) B1 (ob r))
    (he : starEach (e :: es) X.env = (false, eval e X.env) :: starEach es X.env := by rfl) (hpl : (backTo pos (starEach es X.env)).any (·.1) = false := by rfl)
    (ht : ∀ whole, isTrue (.Call (.Name f p) (e :: es) [] pos) X.env whole = (do let v ← whole; standAt (Expr.pos (.Call (.Name f p) (e :: es) [] pos)); holding [v] (truthy v)) := by exact fun _ => rfl) :
    Run X wd eS eB eT ρ [.If (.Call (.Name f p) (e :: es) [] pos) A1 B1 py] (M.bind fun r => (boolR (fd r)).bind fun b => if b = true then oa r else ob r) := fun F ad σ H Dn s q => by
  refine bss (pss_one (ps_if (pt_val pe_b ht) pss_b pss_b)) ?_
  refine step_call c.toCw W G hj hg hI nd hcs he hpl s (o := fun r => (boolR (fd r)).bind fun b => if b = true then oa r else ob r) q fun r v H' s' _ rt q => ?_
  have rv := rt.rep rfl
  generalize hd : fd r = d at q rv
  cases d with
  | bool b =>
    refine ⟨b, RepB.bool (dr := none) (.inl rv), ?_⟩
    cases b with
    | true => exact iteT (hA r F ad σ H' Dn s' q)
    | false => exact iteF (hB r F ad σ H' Dn s' q)
  | _ => exact q.elim
theorem run_ifNC1 [Calm wd] (c : Cd CX k wd N sc X) (W : NoW wd) (G : Df X.prog X.w X.K X.mg X.base CX j f (spX X.K false fd fo m)) (hj : j ≤ k) (hg : glB sc f = true) (hI : ∀ i ∈ I, Own ρ i) (nd : I.Nodup) (hcs : CallS X wd ρ I [] [] (e :: es) M m) {oa ob : β → R (Out S B T)} {pn : Pos}
    (hA : ∀ r, Run X wd eS eB eT (setC ρ I (fo r)) A1 (oa r)) (hB : ∀ r, Run X wd eS eB eT (setC ρ I (fo r)) B1 (ob r))
    (he : starEach (e :: es) X.env = (false, eval e X.env) :: starEach es X.env := by rfl) (hpl : (backTo pos (starEach es X.env)).any (·.1) = false := by rfl)
    (ht : ∀ whole, isTrue (.Call (.Name f p) (e :: es) [] pos) X.env whole = (do let v ← whole; standAt (Expr.pos (.Call (.Name f p) (e :: es) [] pos)); holding [v] (truthy v)) := by exact fun _ => rfl) :
    Run X wd eS eB eT ρ [.If (.UnaryOp .Not (.Call (.Name f p) (e :: es) [] pos) pn) A1 B1 py] (M.bind fun r => (boolR (fd r)).bind fun b => if (!b) = true then oa r else ob r) := fun F ad σ H Dn s q => by
  refine bss (pss_one (ps_if (pt_not (pt_val pe_b ht)) pss_b pss_b)) ?_
  refine step_call c.toCw W G hj hg hI nd hcs he hpl s (o := fun r => (boolR (fd r)).bind fun b => if (!b) = true then oa r else ob r) q fun r v H' s' _ rt q => ?_
  have rv := rt.rep rfl
  generalize hd : fd r = d at q rv
  cases d with
  | bool b =>
    refine ⟨b, RepB.bool (dr := none) (.inl rv), ?_⟩
    cases b with
    | true => exact iteF (hB r F ad σ H' Dn s' q)
    | false => exact iteT (hA r F ad σ H' Dn s' q)
  | _ => exact q.elim
end
end
/-! ### defs with objects -/
def oIx : Nat → List Ar → List Nat
  | _, [] => []
  | n, .o _ :: as => n :: oIx (n + 1) as
  | n, _ :: as => oIx (n + 1) as
def adX (vs : List V) (i : Nat) : Addr := match vs[i]? with
  | some (.ref e) => e
  | _ => 0
def slotsX (N : List Str) (as : List Ar) : List Sl := as.map Ar.sl ++ List.replicate (N.length - as.length) .no
def wdX (dr : Drs) (ixs : List Nat) (own : Bool) : Wd := ⟨dr, fun _ _ _ => False, noE, fun i => ixs.contains i, own, true⟩
instance {dr : Drs} {ixs : List Nat} {own : Bool} : Calm (wdX dr ixs own) := ⟨rfl⟩
theorem noWX {dr : Drs} {ixs : List Nat} {own : Bool} : NoW (wdX dr ixs own) := ⟨rfl, fun _ => rfl⟩
section
variable {K : PySem.W.Frag} {dr : Drs} {F B : Addr → Prop} {H H' : Hp} {vs : List V} {as : List Ar} {os : List Addr} {N : List Str}
theorem oIx_ge : ∀ {as : List Ar} {n i : Nat}, i ∈ oIx n as → n ≤ i
  | [], n, i, h => by simp [oIx] at h
  | .o c :: as, n, i, h => by
    rcases List.mem_cons.mp h with rfl | h
    · exact Nat.le_refl _
    · exact Nat.le_of_succ_le (oIx_ge h)
  | .d x :: as, n, i, h => Nat.le_of_succ_le (oIx_ge (as := as) h)
  | .b x :: as, n, i, h => Nat.le_of_succ_le (oIx_ge (as := as) h)
  | .w :: as, n, i, h => Nat.le_of_succ_le (oIx_ge (as := as) h)
theorem oIx_at : ∀ {as : List Ar} {n i : Nat}, i ∈ oIx n as ↔ n ≤ i ∧ ∃ c, as[i - n]? = some (.o c)
  | [], n, i => by simp [oIx]
  | a :: as, n, i => by
    have ih := oIx_at (as := as) (n := n + 1) (i := i)
    have key : (n + 1 ≤ i ∧ ∃ c, as[i - (n + 1)]? = some (Ar.o c)) ↔ (n ≤ i ∧ i ≠ n ∧ ∃ c, (a :: as)[i - n]? = some (Ar.o c)) := by
      constructor
      · rintro ⟨h, c, e⟩
        refine ⟨by omega, by omega, c, ?_⟩
        rw [show i - n = (i - (n + 1)) + 1 by omega]
        simpa using e
      · rintro ⟨h, h2, c, e⟩
        refine ⟨by omega, c, ?_⟩
        rw [show i - n = (i - (n + 1)) + 1 by omega] at e
        simpa using e
    cases a with
    | o c =>
      unfold oIx
      rw [List.mem_cons, ih, key]
      constructor
      · rintro (rfl | ⟨h, _, z⟩)
        · exact ⟨Nat.le_refl _, c, by simp⟩
        · exact ⟨h, z⟩
      · rintro ⟨h, z⟩
        by_cases e : i = n
        · exact .inl e
        · exact .inr ⟨h, e, z⟩
    | _ =>
      unfold oIx
      rw [ih, key]
      constructor
      · rintro ⟨h, _, z⟩; exact ⟨h, z⟩
      · rintro ⟨h, c, z⟩
        refine ⟨h, fun e => ?_, c, z⟩
        rw [e, Nat.sub_self] at z
        simp at z
theorem ArsOk.os_eq (h : ArsOk K dr F B H vs as os) : ∀ n, os = (oIx n as).map fun i => adX vs (i - n) := by
  have sh : ∀ {v : V} {vs : List V} {as : List Ar} (n : Nat), (oIx (n + 1) as).map (fun i => adX vs (i - (n + 1))) = (oIx (n + 1) as).map fun i => adX (v :: vs) (i - n) := fun {v vs as} n => by
    apply List.map_congr_left
    intro i hi
    have := oIx_ge hi
    show adX vs (i - (n + 1)) = adX (v :: vs) (i - n)
    unfold adX
    rw [show i - n = (i - (n + 1)) + 1 by omega, List.getElem?_cons_succ]
  induction h with
  | nil => intro n; rfl
  | d _ _ ih => intro n; rw [ih (n + 1), sh n]; rfl
  | b _ _ _ _ ih => intro n; rw [ih (n + 1), sh n]; rfl
  | @o e c vs as os _ _ _ ih =>
    intro n
    unfold oIx
    rw [List.map_cons, ← sh n, ← ih (n + 1)]
    congr 1
    unfold adX
    rw [Nat.sub_self]
    rfl
  | w _ _ ih => intro n; rw [ih (n + 1), sh n]; rfl
/-- an argument by its place -/
theorem ArsOk.at (h : ArsOk K dr F B H vs as os) : ∀ {i : Nat} {a : Ar}, as[i]? = some a → ∃ v, vs[i]? = some v ∧ match a with
    | .d x => Rep K B H v x
    | .b c => ∃ e, v = .ref e ∧ F e ∧ ¬ Has dr e ∧ HasCt K B H e c
    | .o c => ∃ e, v = .ref e ∧ ¬ Has dr e ∧ HasCt K B H e c
    | .w => ∃ e l, v = .ref e ∧ dr = some (e, l) := by
  induction h with
  | nil => intro i a e; simp at e
  | d r _ ih =>
    intro i a e
    cases i with
    | zero => simp at e; subst e; exact ⟨_, rfl, r⟩
    | succ i => exact ih (by simpa using e)
  | b f n c _ ih =>
    intro i a e
    cases i with
    | zero => simp at e; subst e; exact ⟨_, rfl, _, rfl, f, n, c⟩
    | succ i => exact ih (by simpa using e)
  | o n c _ ih =>
    intro i a e
    cases i with
    | zero => simp at e; subst e; exact ⟨_, rfl, _, rfl, n, c⟩
    | succ i => exact ih (by simpa using e)
  | w f _ ih =>
    intro i a e
    cases i with
    | zero => simp at e; subst e; exact ⟨_, rfl, _, _, rfl, f⟩
    | succ i => exact ih (by simpa using e)
theorem slotsX_at {i : Nat} {s : Sl} (h : (slotsX N as)[i]? = some s) : s = .no ∨ ∃ a, as[i]? = some a ∧ s = a.sl := by
  unfold slotsX at h
  by_cases hi : i < as.length
  · rw [List.getElem?_append_left (by simpa using hi), List.getElem?_map] at h
    obtain ⟨a, ea, rfl⟩ := Option.map_eq_some_iff.mp h
    exact .inr ⟨a, ea, rfl⟩
  · rw [List.getElem?_append_right (by simpa using hi), List.getElem?_replicate] at h
    split at h
    · cases h; exact .inl rfl
    · cases h
theorem slotsX_own {i : Nat} (h : Own (slotsX N as) i) : i ∈ oIx 0 as := by
  obtain ⟨s, e, q⟩ := h
  rcases slotsX_at e with rfl | ⟨a, ea, rfl⟩
  · cases q
  · cases a with
    | o c => exact oIx_at.mpr ⟨Nat.zero_le _, c, by simpa using ea⟩
    | _ => cases q
theorem startX_ok (h : ArsOk K dr F (fun b => F b ∨ b ∈ os) H vs as os) (nb : Fo K H F) (hdr : ∀ a l, dr = some (a, l) → F a ∧ F l ∧ l ≠ a ∧ DrAt H a l) (nd : os.Nodup) (nf : ∀ a ∈ os, ¬ F a) (hl : as.length ≤ N.length) :
    StOk K dr F (slotsX N as) (L2.start N vs) H (adX vs) := by
  have eos := h.os_eq 0
  simp only [Nat.sub_zero] at eos
  have mem : ∀ {i}, Own (slotsX N as) i → adX vs i ∈ os := fun {i} o => by
    rw [eos]
    exact List.mem_map.mpr ⟨i, slotsX_own o, rfl⟩
  have ban : ∀ b, Ban F (slotsX N as) (adX vs) b → F b ∨ b ∈ os := by
    rintro b (z | ⟨i, o, rfl⟩)
    · exact .inl z
    · exact .inr (mem o)
  have hvl := h.length
  refine ⟨?_, fun i j oi oj e => ?_, fun i o => nf _ (mem o), nb.b, hdr, nb.t, fun i s e => ?_⟩
  · unfold L2.start slotsX
    simp only [List.length_append, List.length_map, List.length_replicate]
    omega
  · have hi := slotsX_own oi
    have hj := slotsX_own oj
    rw [eos] at nd
    have key : ∀ (l : List Nat), (l.map (adX vs)).Nodup → i ∈ l → j ∈ l → i = j := by
      intro l
      induction l with
      | nil => simp
      | cons a l ih =>
        intro nd hi hj
        rw [List.map_cons, List.nodup_cons] at nd
        rcases List.mem_cons.mp hi with hi1 | hi1 <;> rcases List.mem_cons.mp hj with hj1 | hj1
        · rw [hi1, hj1]
        · exact absurd (List.mem_map.mpr ⟨j, hj1, by rw [← e, hi1]⟩) nd.1
        · exact absurd (List.mem_map.mpr ⟨i, hi1, by rw [e, hj1]⟩) nd.1
        · exact ih nd.2 hi1 hj1
    exact key _ nd hi hj
  · rcases slotsX_at e with rfl | ⟨a, ea, rfl⟩
    · trivial
    · obtain ⟨v, ev, hv⟩ := h.at ea
      have hi : i < vs.length := (List.getElem?_eq_some_iff.mp ev).1
      have es : (L2.start N vs)[i]? = some (some v) := by
        unfold L2.start
        rw [List.getElem?_append_left (by rw [List.length_map]; exact hi), List.getElem?_map, ev]
        rfl
      cases a with
      | d x => exact ⟨v, es, hv.weak ban⟩
      | b c =>
        obtain ⟨e, rfl, h1, h2, h3⟩ := hv
        exact ⟨e, es, h1, h2, h3.mono (fun _ _ r => r.weak ban) (fun _ _ r => r.weak ban) fun _ q => q⟩
      | o c =>
        obtain ⟨e, rfl, h2, h3⟩ := hv
        have ae : adX vs i = e := by unfold adX; rw [ev]
        rw [ae]
        exact sl_ok es (h3.mono (fun _ _ r => r.weak ban) (fun _ _ r => r.weak ban) fun _ q => q)
      | w =>
        obtain ⟨e, l, rfl, h2⟩ := hv
        exact ⟨e, l, h2, es⟩
end
section
variable {P : Program} {w : World} {K : PySem.W.Frag} {mg : Str → Option Value} {base : Heap} {N ps : List Str} {x : Str} {st : Stmt} {k : Nat}
/-- a def that changes none of its objects -/
theorem df_ofB (A : At K mg x st ps) (S : FnScope N ps (defScope st)) {own : Bool} {m : List Ar → R D} {eN : Unit → List Sl} (sh : ∀ as, m as = bad ∨ (as.length = ps.length ∧ oIx 0 as = []))
    (hrun : ∀ (X : Cx) (dr : Drs), Cd CX0 k (wdX dr [] own) N (defScope st) X → X.prog = P → X.w = w → X.K = K → X.mg = mg → X.base = base → CodeX K x X → ∀ as, m as = bad ∨ ∃ o : R (Out Unit Empty Unit), m as = endR0 o ∧ Run X (wdX dr [] own) eN (fun e : Empty => e.elim) (fun _ : Unit => []) (slotsX N as) (defBody st) o) :
    Df P w K mg base CX0 (k + 1) x (spX K own id (fun _ => []) m) := by
  obtain ⟨f, fd, h1, h2, h3, F⟩ := A.ok
  refine ⟨f, fd, ps, h1, h2, h3, F.okT S (fun vs H Q E h => ?_) (fun cdv hcd A outer s H vs Q E hr h => ?_)⟩
  · obtain ⟨dr, F0, as, os, _, _, _, _, ha, q⟩ := h
    rcases sh as with z | z
    · rw [z] at q; exact q.elim
    · rw [ha.length]; exact z.1
  · obtain ⟨dr, F0, as, os, nb, hdr, nd, nf, ha, q⟩ := h
    rcases sh as with z | ⟨z1, z2⟩
    · rw [z] at q; exact q.elim
    have eos := ha.os_eq 0
    rw [z2] at eos
    simp only [List.map_nil] at eos
    subst eos
    refine ⟨_, pss_b, ?_⟩
    have hN : ps.length ≤ N.length := by have := congrArg List.length S.pre; rw [List.length_take] at this; omega
    have st0 := startX_ok (N := N) ha nb hdr nd nf (by omega)
    have no : ∀ {i}, ¬ Own (slotsX N as) i := fun {i} o => by have := slotsX_own o; rw [z2] at this; simp at this
    rcases hrun ((cxOf CX0 P w K mg base N x (defScope st) f cdv A outer s H E).nox) dr ⟨⟨rfl, rfl, S.nd, fun _ => rfl, un_of hr, fun _ => hr, PassesOwn.never, pass0⟩, fun _ => rfl, S.kind, rfl, rfl⟩ rfl rfl rfl rfl rfl hcd as with z | ⟨o, hm, run⟩
    · rw [z] at q; exact q.elim
    rw [hm] at q
    unfold endR0 at q
    rw [wp_bind] at q
    have gr : ∀ {ρ' : List Sl} {ad' : Nat → Addr} {H' : Hp}, Adv (wdX dr [] own) (slotsX N as) (adX vs) H ρ' ad' H' → GrowO dr [] H H' := fun {ρ' ad' H'} z => ⟨fun b o e n _ => (z.keep b o e n fun ⟨i, o, _⟩ => no o).1, z.draw⟩
    have rt : ∀ {H' : Hp} {ρ' : List Sl} {ad' : Nat → Addr} {v : V} {d : D}, RetO own dr K (fun a => OwnA (slotsX N as) (adX vs) a ∨ H a = none) (Ban F0 ρ' ad') H' v d → RetO own dr K (fun a => H a = none) (fun b => F0 b ∨ b ∈ ([] : List Addr)) H' v d := fun {H' ρ' ad' v d} r => by
      have key := r.mono (nw' := fun a => H a = none) fun a _ z => z.elim (fun ⟨i, o, _⟩ => absurd o no) id
      have e : (fun b => F0 b ∨ b ∈ ([] : List Addr)) = F0 := by funext b; simp
      rw [e]
      exact key.weak fun b z => .inl z
    refine run F0 (adX vs) _ H _ st0 (wp_mono (fun z q => ?_) (fun c x z => z.elim) q)
    cases z with
    | nx u => exact fun ad' σ' H' a s' => q _ H' (gr a) .nil (.inl .non)
    | bk b => exact b.elim
    | ct b => exact b.elim
    | rt d t => exact fun v ad' ρ' σ' H' a s' _ r => q v H' (gr a) .nil (rt r)
/-- how a def with in-out objects ends -/
def endX {τ : Type} (r : R (Out τ Empty τ)) : R (D × τ) := r.bind fun o => match o with
  | .nx t => ret (.none, t)
  | .rt d t => ret (d, t)
theorem outs_ok {K : PySem.W.Frag} {dr : Drs} {F : Addr → Prop} {ρ : List Sl} {σ : L2.St} {H : Hp} {ad ad0 : Nat → Addr} {eN : List Sl} (s : StOk K dr F ρ σ H ad) (hρ : ∀ (i : Nat) (s : Sl), eN[i]? = some s → s.own = true → ρ[i]? = some s) {B : Addr → Prop} (hB : ∀ b, B b → Ban F ρ ad b) :
    ∀ {ixs : List Nat} {cs : List Ct}, Paired (fun i c => eN[i]? = some c.sl) ixs cs → (∀ i ∈ ixs, ad i = ad0 i) → OutsOk K B H (ixs.map ad0) cs
  | _, _, .nil, _ => .nil
  | i :: ixs, c :: cs, .cons h t, ha => by
    rw [List.map_cons]
    refine .cons ?_ (outs_ok s hρ hB t fun j hj => ha j (List.mem_cons_of_mem _ hj))
    rw [← ha i List.mem_cons_self]
    exact (ok_sl (s.sl i _ (hρ i _ h (sl_own c)))).2.mono (fun _ _ r => r.weak hB) (fun _ _ r => r.weak hB) fun _ q => q
/-- a def that changes objects: the slots ixs -/
theorem df_ofX (A : At K mg x st ps) (S : FnScope N ps (defScope st)) {ixs : List Nat} {τ : Type} {eN : τ → List Sl} {fo : τ → List Ct} {m : List Ar → R (D × τ)} (sh : ∀ as, m as = bad ∨ (as.length = ps.length ∧ oIx 0 as = ixs)) (hfo : ∀ t, Paired (fun i c => (eN t)[i]? = some c.sl) ixs (fo t))
    (hrun : ∀ (X : Cx) (dr : Drs), Cd CX0 k (wdX dr ixs false) N (defScope st) X → X.prog = P → X.w = w → X.K = K → X.mg = mg → X.base = base → CodeX K x X → ∀ as, m as = bad ∨ ∃ o : R (Out τ Empty τ), m as = endX o ∧ Run X (wdX dr ixs false) eN (fun e : Empty => e.elim) eN (slotsX N as) (defBody st) o) :
    Df P w K mg base CX0 (k + 1) x (spX K false Prod.fst (fun r => fo r.2) m) := by
  obtain ⟨f, fd, h1, h2, h3, F⟩ := A.ok
  refine ⟨f, fd, ps, h1, h2, h3, F.okT S (fun vs H Q E h => ?_) (fun cdv hcd A outer s H vs Q E hr h => ?_)⟩
  · obtain ⟨dr, F0, as, os, _, _, _, _, ha, q⟩ := h
    rcases sh as with z | z
    · rw [z] at q; exact q.elim
    · rw [ha.length]; exact z.1
  · obtain ⟨dr, F0, as, os, nb, hdr, nd, nf, ha, q⟩ := h
    rcases sh as with z | ⟨z1, z2⟩
    · rw [z] at q; exact q.elim
    have eos := ha.os_eq 0
    rw [z2] at eos
    simp only [Nat.sub_zero] at eos
    refine ⟨_, pss_b, ?_⟩
    have hN : ps.length ≤ N.length := by have := congrArg List.length S.pre; rw [List.length_take] at this; omega
    have st0 := startX_ok (N := N) ha nb hdr nd nf (by omega)
    rcases hrun ((cxOf CX0 P w K mg base N x (defScope st) f cdv A outer s H E).nox) dr ⟨⟨rfl, rfl, S.nd, fun _ => rfl, un_of hr, fun _ => hr, PassesOwn.never, pass0⟩, fun _ => rfl, S.kind, rfl, rfl⟩ rfl rfl rfl rfl rfl hcd as with z | ⟨o, hm, run⟩
    · rw [z] at q; exact q.elim
    rw [hm] at q
    unfold endX at q
    rw [wp_bind] at q
    have gr : ∀ {ρ' : List Sl} {ad' : Nat → Addr} {H' : Hp}, Adv (wdX dr ixs false) (slotsX N as) (adX vs) H ρ' ad' H' → GrowO dr os H H' := fun {ρ' ad' H'} z => ⟨fun b o e n m => (z.keep b o e n fun ⟨i, o, ei⟩ => m (by
      rw [eos]
      have := slotsX_own o
      rw [z2] at this
      exact List.mem_map.mpr ⟨i, this, ei⟩)).1, z.draw⟩
    have pin : ∀ {ρ' : List Sl} {ad' : Nat → Addr} {H' : Hp}, Adv (wdX dr ixs false) (slotsX N as) (adX vs) H ρ' ad' H' → ∀ i ∈ ixs, ad' i = adX vs i := fun {ρ' ad' H'} z i hi => z.pin i (by simpa [wdX] using hi)
    have bn : ∀ {eN : List Sl} {cs : List Ct} {ρ' : List Sl} {ad' : Nat → Addr}, (∀ (i : Nat) (s : Sl), eN[i]? = some s → s.own = true → ρ'[i]? = some s) → Paired (fun i c => eN[i]? = some c.sl) ixs cs → (∀ i ∈ ixs, ad' i = adX vs i) → ∀ b, (F0 b ∨ b ∈ os) → Ban F0 ρ' ad' b := fun {eN cs ρ' ad'} hρ hp hpin b z => by
      rcases z with z | z
      · exact .inl z
      · rw [eos] at z
        obtain ⟨i, hi, ei⟩ := List.mem_map.mp z
        refine .inr ⟨i, ?_, by rw [hpin i hi]; exact ei⟩
        have : ∀ {ixs : List Nat} {cs : List Ct}, Paired (fun i c => eN[i]? = some c.sl) ixs cs → i ∈ ixs → ∃ c : Ct, eN[i]? = some c.sl := by
          intro ixs cs hp
          induction hp with
          | nil => intro h; simp at h
          | cons h _ ih =>
            intro hi
            rcases List.mem_cons.mp hi with rfl | hi
            · exact ⟨_, h⟩
            · exact ih hi
        obtain ⟨c, ec⟩ := this hp hi
        exact ⟨c.sl, hρ i _ ec (sl_own c), sl_own c⟩
    refine run F0 (adX vs) _ H _ st0 (wp_mono (fun z q => ?_) (fun c x z => z.elim) q)
    cases z with
    | nx t =>
      intro ad' σ' H' a s'
      refine q _ H' (gr a) ?_ (.inl .non)
      have := outs_ok s' (fun _ _ e _ => e) (bn (fun _ _ e _ => e) (hfo t) (pin a)) (hfo t) (pin a)
      rw [eos] at this ⊢
      exact this
    | bk b => exact b.elim
    | ct b => exact b.elim
    | rt d t =>
      intro v ad' ρ' σ' H' a s' hρ r
      refine q v H' (gr a) ?_ (.inl ((r.rep rfl).weak (bn hρ (hfo t) (pin a))))
      have := outs_ok s' hρ (bn hρ (hfo t) (pin a)) (hfo t) (pin a)
      rw [eos] at this ⊢
      exact this
end
end Pu
/-! Pso: sorted, any, in, over data. -/
namespace Pu
open PySem PySem.Spec PyProof.Rows L2 R
/-! ### in -/
def flatD : D → Bool
  | .none => true
  | .bool _ => true
  | .int _ => true
  | .str _ => true
  | _ => false
def eqF : D → D → Bool
  | .none, .none => true
  | .bool a, .bool b => a == b
  | .bool a, .int b => (if a then 1 else 0) == b
  | .int a, .bool b => a == (if b then 1 else 0)
  | .int a, .int b => a == b
  | .str a, .str b => a == b
  | _, _ => false
def inB (x : D) (ds : List D) : Bool := ds.any fun z => eqF z x
def inR (x y : D) : R D := match y with
  | .list ds => if (flatD x && ds.all flatD) = true then ret (.bool (inB x ds)) else if SeqAt.shaped x = true ∧ SeqAt.shaped (.list ds) = true then ret (.bool (ds.any fun z => PyData.eqv z x)) else bad
  | .tuple ds => if (flatD x && ds.all flatD) = true then ret (.bool (inB x ds)) else bad
  | .str z => (match x with
    | .str w => (match w.cps.toList with | [c] => ret (.bool (decide (c ∈ z.cps.toList))) | _ => bad)
    | _ => bad)
  | _ => bad
def ninR (x y : D) : R D := (inR x y).bind fun d => notR d
section
variable {K : PySem.W.Frag} {B : Addr → Prop} {H : Hp}
theorem flat_rep {v : V} {d : D} (h : Rep K B H v d) (f : flatD d = true) : flatV v = true := by
  cases d with
  | none => cases h; rfl
  | bool b => cases h; rfl
  | int b => cases h; rfl
  | str b => cases h; rfl
  | _ => cases f
theorem eqf_rep {v w : V} {d e : D} (h : Rep K B H v d) (h' : Rep K B H w e) (f : flatD d = true) (f' : flatD e = true) : eqV v w = eqF d e := by
  cases d with
  | none => cases h; cases e with
    | none => cases h'; rfl
    | bool b => cases h'; rfl
    | int b => cases h'; rfl
    | str b => cases h'; rfl
    | _ => cases f'
  | bool b => cases h; cases e with
    | none => cases h'; rfl
    | bool b => cases h'; rfl
    | int b => cases h'; rfl
    | str b => cases h'; rfl
    | _ => cases f'
  | int b => cases h; cases e with
    | none => cases h'; rfl
    | bool b => cases h'; rfl
    | int b => cases h'; rfl
    | str b => cases h'; rfl
    | _ => cases f'
  | str b => cases h; cases e with
    | none => cases h'; rfl
    | bool b => cases h'; rfl
    | int b => cases h'; rfl
    | str b => cases h'; rfl
    | _ => cases f'
  | _ => cases f
theorem flats_rep : ∀ {ds : List D} {vs : List V}, Reps K B H vs ds → ds.all flatD = true → vs.all flatV = true
  | [], _, h, _ => by cases h; rfl
  | d :: ds, _, h, f => by
    cases h with
    | cons a b =>
      rw [List.all_cons, Bool.and_eq_true] at f ⊢
      exact ⟨flat_rep a f.1, flats_rep b f.2⟩
theorem in_rep {x : V} {d : D} (h : Rep K B H x d) (f : flatD d = true) : ∀ {ds : List D} {vs : List V}, Reps K B H vs ds → ds.all flatD = true → inV x vs = inB d ds
  | [], _, r, _ => by cases r; rfl
  | e :: ds, _, r, fs => by
    cases r with
    | cons a b =>
      rw [List.all_cons, Bool.and_eq_true] at fs
      unfold inV inB
      rw [List.any_cons, List.any_cons, eqf_rep a h fs.1 f]
      congr 1
      exact in_rep h f b fs.2
end
def rInX (K : PySem.W.Frag) : R2 := fun x y H Q => rIn K false x y H Q ∨ rInD K x y H Q ∨ ∃ (c : Nat) (z : Str), x = .str ⟨#[c]⟩ ∧ y = .str z ∧ Q (.bl (decide (c ∈ z.cps.toList))) H
def rNInX (K : PySem.W.Frag) : R2 := fun x y H Q => rIn K true x y H Q ∨ rNotInD K x y H Q ∨ ∃ (c : Nat) (z : Str), x = .str ⟨#[c]⟩ ∧ y = .str z ∧ Q (.bl (!decide (c ∈ z.cps.toList))) H
theorem one_sign {w : Str} {c : Nat} (h : w.cps.toList = [c]) : w = ⟨#[c]⟩ := by
  obtain ⟨a⟩ := w
  have : a = #[c] := Array.toList_inj.mp (by simpa using h)
  rw [this]
/-- one of a text, a list, a tuple: with the test's answer turned or not -/
theorem in_core {K : PySem.W.Frag} {B : Addr → Prop} {H : Hp} {x y : V} {d e : D} {E : Nat → D → Prop} {Q : D → Prop} (hx : RepB K dr B H x d) (hy : RepB K dr B H y e) (q : (inR d e).wp Q E) :
    ∃ b : Bool, Q (.bool b) ∧ ((∃ p xs, y = .ref p ∧ (SqL K H p xs ∨ SqT K H p xs) ∧ flatV x = true ∧ xs.all flatV = true ∧ b = inV x xs) ∨ (∃ d ds, Dp K H x d ∧ Dp K H y (.list ds) ∧ SeqAt.shaped d = true ∧ SeqAt.shaped (.list ds) = true ∧ b = ds.any fun z => PyData.eqv z d) ∨
      ∃ (c : Nat) (z : Str), x = .str ⟨#[c]⟩ ∧ y = .str z ∧ b = decide (c ∈ z.cps.toList)) := by
  have fx : flatD d = true → Rep K B H x d := fun f => by
    rcases hx with h | ⟨a, vs, ds, _, rfl, _⟩
    · exact h
    · cases f
  cases e with
  | list ds =>
    unfold inR at q
    by_cases hf : (flatD d && ds.all flatD) = true
    · simp only [hf, if_true] at q
      rw [Bool.and_eq_true] at hf
      obtain ⟨a, vs, rfl, h1, r1⟩ := hy.list
      exact ⟨_, q, .inl ⟨a, vs, rfl, .inl (.inl h1), flat_rep (fx hf.1) hf.1, flats_rep r1 hf.2, (in_rep (fx hf.1) hf.1 r1 hf.2).symm⟩⟩
    · simp only [hf, if_false] at q
      obtain ⟨⟨h1, h2⟩, q⟩ := wp_ite (by simpa using q)
      exact ⟨_, q, .inr (.inl ⟨d, ds, hx.dp, hy.dp, h1, h2, rfl⟩)⟩
  | tuple ds =>
    obtain ⟨hf, q⟩ := wp_ite q
    rw [Bool.and_eq_true] at hf
    obtain ⟨a, vs, rfl, h1, r1⟩ := hy.tuple
    exact ⟨_, q, .inl ⟨a, vs, rfl, .inr h1.sq, flat_rep (fx hf.1) hf.1, flats_rep r1 hf.2, (in_rep (fx hf.1) hf.1 r1 hf.2).symm⟩⟩
  | str z =>
    cases d with
    | str w =>
      unfold inR at q
      simp only at q
      split at q
      · rename_i c hc
        rw [hx.str, hy.str, one_sign hc]
        exact ⟨_, q, .inr (.inr ⟨c, z, rfl, rfl, rfl⟩)⟩
      · exact q.elim
    | _ => exact q.elim
  | _ => exact q.elim
theorem opS_in {K : PySem.W.Frag} : OpS K (rInX K) inR := by
  intro B H x y d e Q E hb hx hy q
  obtain ⟨b, q, h⟩ := in_core hx hy q
  have q := q (.bl b) H (Same.refl _) (.bl _)
  rcases h with ⟨p, xs, h1, h2, h3, h4, rfl⟩ | ⟨d, ds, h1, h2, h3, h4, rfl⟩ | ⟨c, z, h1, h2, rfl⟩
  · exact .inl ⟨p, xs, h1, h2, h3, h4, q⟩
  · exact .inr (.inl ⟨d, ds, h1, h2, h3, h4, q⟩)
  · exact .inr (.inr ⟨c, z, h1, h2, q⟩)
theorem opS_nin {K : PySem.W.Frag} : OpS K (rNInX K) ninR := by
  intro B H x y d e Q E hb hx hy q
  unfold ninR at q
  rw [wp_bind] at q
  obtain ⟨b, q, h⟩ := in_core hx hy q
  have q := q (.bl (!b)) H (Same.refl _) (.bl _)
  rcases h with ⟨p, xs, h1, h2, h3, h4, rfl⟩ | ⟨d, ds, h1, h2, h3, h4, rfl⟩ | ⟨c, z, h1, h2, rfl⟩
  · exact .inl ⟨p, xs, h1, h2, h3, h4, q⟩
  · exact .inr (.inl ⟨d, ds, h1, h2, h3, h4, q⟩)
  · exact .inr (.inr ⟨c, z, h1, h2, q⟩)
/-- a tuple of flat values that the module holds -/
def dV : D → V
  | .none => .non
  | .bool b => .bl b
  | .int i => .int i
  | .str x => .str x
  | _ => .non
def GTup (K : PySem.W.Frag) (mg : Str → Option Value) (x : Str) (ds : List D) : Prop := ∃ a u, mg x = some u ∧ RelV (.ref a) u ∧ ds.all flatD = true ∧ ∀ H, SqT K H a (ds.map dV)
theorem rep_dV {K : PySem.W.Frag} {B : Addr → Prop} {H : Hp} : ∀ {ds : List D}, ds.all flatD = true → Reps K B H (ds.map dV) ds
  | [], _ => .nil
  | d :: ds, h => by
    rw [List.all_cons, Bool.and_eq_true] at h
    refine .cons ?_ (rep_dV h.2)
    cases d with
    | none => exact .non
    | bool b => exact .bl b
    | int b => exact .int b
    | str b => exact .str b
    | _ => cases h.1
section
variable {CX : CXT} {k : Nat} {wd : Wd} {N : List Str} {sc : Scope} {X : Cx} {ρ : List Sl} {a b : Expr} {pos p : Pos} {ra rb : R D} {x y : Str} {py : Pos}
theorem ev_in (c : Cw CX k wd N sc X) (ha : EvB X wd ρ a ra) (hb : EvB X wd ρ b rb) (hm : behindInMarks .In b = false := by rfl) : Ev X wd ρ (.Compare a [.In] [b] pos) (ra.bind fun x => rb.bind fun y => inR x y) :=
  ev_cmp (OpR.or op_in_seq (OpR.or (op_inD (by have := c.un; omega)) op_in_sign)) opS_in hm ha hb
theorem ev_notin (c : Cw CX k wd N sc X) (ha : EvB X wd ρ a ra) (hb : EvB X wd ρ b rb) (hm : behindInMarks .NotIn b = false := by rfl) : Ev X wd ρ (.Compare a [.NotIn] [b] pos) (ra.bind fun x => rb.bind fun y => ninR x y) :=
  ev_cmp (OpR.or op_notIn_seq (OpR.or (op_notInD (by have := c.un; omega)) op_notIn_sign)) opS_nin hm ha hb
end
/-! ### any, all of data -/
def plainIB : D → Bool
  | .int _ => true
  | .bool _ => true
  | _ => false
def anyT (d : D) : R D := match d with
  | .list xs => if xs.all plainIB = true then ret (.bool (xs.any PyData.truthy)) else bad
  | .tuple xs => if xs.all plainIB = true then ret (.bool (xs.any PyData.truthy)) else bad
  | _ => bad
theorem plain_all : ∀ {xs : List D}, xs.all plainIB = true → PyData.plainAll xs = true ∧ ∀ x ∈ xs, x.fits63
  | [], _ => ⟨rfl, by simp⟩
  | x :: xs, h => by
    rw [List.all_cons, Bool.and_eq_true] at h
    obtain ⟨h1, h2⟩ := plain_all h.2
    cases x with
    | int i => exact ⟨by unfold PyData.plainAll; rw [h1]; rfl, fun y hy => by
        rcases List.mem_cons.mp hy with rfl | hy
        · trivial
        · exact h2 y hy⟩
    | bool i => exact ⟨by unfold PyData.plainAll; rw [h1]; rfl, fun y hy => by
        rcases List.mem_cons.mp hy with rfl | hy
        · trivial
        · exact h2 y hy⟩
    | _ => cases h.1
def rAnyT (K : PySem.W.Frag) : List V → Hp → VK → Prop := fun vs H Q => ∃ (a : Addr) (xs : List V) (ds : List D), vs = [V.ref a] ∧ (SqL K H a xs ∨ SqT K H a xs) ∧ DpAll K H xs ds ∧ ds.all plainIB = true ∧ Q (.bl (ds.any PyData.truthy)) H
theorem cr_anyT {X : Cx} (hc : X.calm = true) : CallR X (.builtin "any") (rAnyT X.K) := by
  intro pins s σ H vs us Q I r h
  obtain ⟨a, xs, ds, rfl, hs, hd, hp, q⟩ := h
  obtain ⟨u, rfl, ru⟩ := vals1 r
  obtain rfl : u = Value.ref a := ru
  obtain ⟨p1, p2⟩ := plain_all hp
  rcases hs with hs | hs
  · obtain ⟨its, rv, hl, _⟩ := I.list hs
    obtain ⟨as, ra⟩ := Dp.readsAll I ds xs its hd rv
    exact PySem.W.any_list_data (I.ok.hd hc) hl.isList (by simpa using ra) p1 p2 fun h' tk kp => ⟨.bl _, H, I.kept kp, rfl, q⟩
  · obtain ⟨its, rv, hl, _⟩ := I.tuple hs
    obtain ⟨as, ra⟩ := Dp.readsAll I ds xs its hd rv
    exact PySem.W.any_tuple_data (I.ok.hd hc) hl (by simpa using ra) p1 p2 fun h' tk kp => ⟨.bl _, H, I.kept kp, rfl, q⟩
theorem calS_anyT {K : PySem.W.Frag} : CalS K (rAnyT K) anyT := by
  intro B H x d Q E nb r q
  cases d with
  | list ds =>
    obtain ⟨a, vs, rfl, e, rr⟩ := r.list
    obtain ⟨hp, q⟩ := wp_ite q
    exact ⟨a, vs, ds, rfl, .inl (.inl e), rr.dp, hp, q _ _ (Same.refl _) (.bl _)⟩
  | tuple ds =>
    obtain ⟨a, vs, rfl, e, rr⟩ := r.tuple
    obtain ⟨hp, q⟩ := wp_ite q
    exact ⟨a, vs, ds, rfl, .inr e.sq, rr.dp, hp, q _ _ (Same.refl _) (.bl _)⟩
  | _ => exact q.elim
/-! ### sorted -/
def isTup1 : D → Bool
  | .tuple (_ :: _) => true
  | _ => false
def notNT : D → Bool
  | .none => false
  | .tuple _ => false
  | _ => true
def srtOk (ds : List D) : Bool := (ds.all fun d => ds.all fun e => PySem.W.alike d e) && (ds.all isTup1 || ds.all notNT) && ds.all fun d => decide (d.depth ≤ 60)
def srtD (ds : List D) : List D := ds.mergeSort (PySem.W.dataLe false id)
def sortL (ds : List D) : R (List D) := if srtOk ds = true ∧ ds.length ≤ sizeLine then ret (srtD ds) else bad
def sortedR (d : D) : R (List D) := match d with
  | .list ds => sortL ds
  | .tuple ds => bad
  | _ => bad
theorem srt_alike {ds : List D} (h : srtOk ds = true) : PySem.W.AllAlike ds ∧ PySem.W.Sortable ds ∧ ∀ d ∈ ds, d.depth ≤ 60 := by
  unfold srtOk at h
  rw [Bool.and_eq_true, Bool.and_eq_true] at h
  obtain ⟨⟨h1, h2⟩, h3⟩ := h
  refine ⟨fun d hd e he => ?_, ?_, fun d hd => ?_⟩
  · rw [List.all_eq_true] at h1
    have := h1 d hd
    rw [List.all_eq_true] at this
    exact this e he
  · rw [Bool.or_eq_true] at h2
    rcases h2 with h2 | h2
    · refine .inl fun d hd => ?_
      have := (List.all_eq_true.mp h2) d hd
      unfold isTup1 at this
      split at this
      · exact ⟨_, _, rfl⟩
      · cases this
    · refine .inr fun d hd => ?_
      have := (List.all_eq_true.mp h2) d hd
      unfold notNT at this
      split at this
      · cases this
      · cases this
      · rename_i h4 h5
        exact ⟨fun e => h4 (by rw [e]), fun xs e => h5 xs (by rw [e])⟩
  · have := (List.all_eq_true.mp h3) d hd
    simpa using this
theorem each_of {α β : Type} {R : α → β → Prop} : ∀ {as : List α} {bs : List β}, Paired R as bs → PySem.W.EachIs R as bs
  | _, _, .nil => .nil
  | _, _, .cons h t => .cons h (each_of t)
theorem reads_each {h : Heap} : ∀ {us : List Value} {ds : List D} {as : List Addr}, ReadsAll h us ds as → PySem.W.EachIs (fun v b => ∃ as, Reads h v b as) us ds
  | _, _, _, .nil => .nil
  | _, _, _, .cons a b => .cons ⟨_, a⟩ (reads_each b)
theorem each_vals {K : PySem.W.Frag} {B : Addr → Prop} {H : Hp} : ∀ {us : List Value} {vs : List V} {ds : List D}, Reps K B H vs ds → Vals vs us → PySem.W.EachIs (fun u d => ∃ v, RelV v u ∧ Rep K B H v d) us ds
  | [], _, _, h, r => by cases r; cases h; exact .nil
  | u :: us, _, _, h, r => by
    cases r with
    | cons a b =>
      cases h with
      | cons c d => exact .cons ⟨_, a, c⟩ (each_vals d b)
theorem vals_each {K : PySem.W.Frag} {B : Addr → Prop} {H : Hp} : ∀ {us : List Value} {ds : List D}, PySem.W.EachIs (fun u d => ∃ v, RelV v u ∧ Rep K B H v d) us ds → ∃ vs, Vals vs us ∧ Reps K B H vs ds
  | _, _, .nil => ⟨[], .nil, .nil⟩
  | _, _, .cons ⟨v, a, b⟩ t => by
    obtain ⟨vs, h1, h2⟩ := vals_each t
    exact ⟨v :: vs, .cons a h1, .cons b h2⟩
def rSortL (K : PySem.W.Frag) : List V → Hp → VK → Prop := fun vs H Q => ∃ (a : Addr) (xs : List V) (ds : List D) (B : Addr → Prop), vs = [V.ref a] ∧ SqL K H a xs ∧ Reps K B H xs ds ∧ srtOk ds = true ∧ ds.length ≤ sizeLine ∧
  ∀ ys p, Reps K B H ys (srtD ds) → H p = none → Q (.ref p) (upd H p (.lst ys))
theorem cr_sortL {X : Cx} (hu : X.A.units + 64 < cLine) : CallR X (.builtin "sorted") (rSortL X.K) := by
  intro pins s σ H vs us Q I r h
  obtain ⟨a, xs, ds, B, rfl, hs, hr, ho, hz, q⟩ := h
  obtain ⟨u, rfl, ru⟩ := vals1 r
  obtain rfl : u = Value.ref a := ru
  obtain ⟨its, rv, hl, _⟩ := I.list hs
  obtain ⟨as, ra⟩ := Dp.readsAll I ds xs its hr.dp rv
  obtain ⟨h1, h2, h3⟩ := srt_alike ho
  refine PySem.W.sorted_data (enc := id) (R := fun u d => ∃ v, RelV v u ∧ Rep X.K B H v d) hl.isList (each_vals hr rv) (reads_each ra) (by rw [List.map_id]; exact h1) (by rw [List.map_id]; exact h2) hz (fun b hb => by have := h3 b hb; show X.A.units + 2 + b.depth < cLine; omega) fun out hl2 e => ?_
  obtain ⟨ys, hv, hy⟩ := vals_each e
  have hn : H (s.heap.objs.size + 1) = none := I.hok.fresh (Nat.le_succ _)
  obtain ⟨n, hn2⟩ := sortedAll_at s.heap its out.toArray
  refine ⟨.ref _, upd H (s.heap.objs.size + 1) (.lst ys), I.laid (t' := s.toks) (fun b o e => sortedAll_old e) (Nat.le_succ _) ⟨?_, out, n, hv, hn2⟩, rfl, q ys _ hy hn⟩
  rw [hy.length]
  rw [List.length_mergeSort]
  exact hz
/-! ### sorted(d): the keys -/
theorem key_reads {h : Heap} {k : Key} {u : Value} (r : RelV (kV k) u) : Reads h u (keyD k) [] := by
  cases k with
  | inl i =>
    obtain ⟨t, rfl⟩ := (show ∃ t, u = Value.int i t from r)
    exact .int i t
  | inr x =>
    obtain ⟨t, rfl⟩ := (show ∃ t, u = Value.str x t from r)
    exact .str x t
theorem keys_reads {h : Heap} : ∀ {ks : List Key} {us : List Value}, Vals (ks.map kV) us → ReadsAll h us (ks.map keyD) []
  | [], _, r => by cases r; exact .nil
  | k :: ks, _, r => by
    rw [List.map_cons] at r
    cases r with
    | cons a b => exact ReadsAll.cons (as := []) (bs := []) (key_reads a) (keys_reads b)
theorem each_pair {α β : Type} {R S : α → β → Prop} : ∀ {as : List α} {bs : List β}, PySem.W.EachIs R as bs → (∀ a b, R a b → S a b) → PySem.W.EachIs S as bs
  | _, _, .nil, _ => .nil
  | _, _, .cons a b, k => .cons (k _ _ a) (each_pair b k)
theorem sort_src {X : Cx} {pins : List (Addr × Obj)} {σ : L2.St} {H : Hp} {s : Shared} {a : Addr} {n : Nat} {P : Nat → Value → Prop} {OK : Heap → Prop} {ds : List D} {B : Addr → Prop} {Q : VK} (hu : X.A.units + 64 < cLine) (hc : X.calm = true) (I : Inv X pins σ H s)
    (src : PySem.W.KdlSrc X.prog X.w "dict" a a n P OK) (ok : OK s.heap) (hn : n ≤ sizeLine) (ho : srtOk ds = true) (hz : ds.length ≤ sizeLine)
    (hi : ∀ (h' : Heap) (tk : Nat) (acc : Array Value), (∀ b o, s.heap.get? b = some o → h'.get? b = some o) → ItemsOf P acc n → PySem.W.EachIs (fun u d => (∃ v, RelV v u ∧ Rep X.K B H v d) ∧ ∀ h2, (∀ b o, s.heap.get? b = some o → h2.get? b = some o) → Reads h2 u d []) acc.toList ds)
    (q : ∀ ys p, Reps X.K B H ys (srtD ds) → H p = none → Q (.ref p) (upd H p (.lst ys))) : wpAny (model X.prog X.w) X.A (call (.builtin "sorted") [.ref a]) (EP X pins σ Q) X.xe s := by
  obtain ⟨h1, h2, h3⟩ := srt_alike ho
  refine Calls.call_function_entry PyProof.Rows.kind_sorted PyProof.Rows.plain_sorted PyProof.Rows.entry_sorted (PyProof.Rows.args_sorted1 _) ?_
  unfold Builtin.«sorted»
  refine wpAny_bind (m := checkCount "sorted" 1 1 _) (wpAny_pure ?_)
  refine wpAny_bind (PySem.W.kdu_collect (A := X.A.in1) src (I.ok.hd hc) ok hn fun h' tk acc hk hacc => ?_)
  have each := hi h' tk acc hk hacc
  have I1 : Inv X pins σ H { s with heap := h', toks := tk } := I.kept hk
  have hl : acc.toList.length = ds.length := each.length
  refine wpAny_bind (wpAny_newList ?_ (by rw [hl]; exact hz))
  generalize hp : h'.objs.size = p at I1
  have hoL : (h'.push (seqObj "list" acc.toList.toArray 0)).get? p = some (seqObj "list" acc.toList.toArray 0) := by rw [← hp]; exact Heap.get?_push_size _ rfl
  have hnp : H p = none := I1.hok.fresh (Nat.le_of_eq hp)
  have old : ∀ b o, h'.get? b = some o → (h'.push (seqObj "list" acc.toList.toArray 0)).get? b = some o := fun b o e => Heap.get?_push_of_some _ e
  refine wpAny_bind (wpAny_holding (PySem.W.list_sort_data (s := { s with heap := h'.push (seqObj "list" acc.toList.toArray 0), toks := tk }) (enc := id) (R := fun u d => ∃ v, RelV v u ∧ Rep X.K B H v d) hoL (each_pair each fun _ _ z => z.1)
    (each_pair each fun _ _ z => ⟨[], z.2 _ fun b o e => old b o (hk b o e), by simp⟩) (by rw [List.map_id]; exact h1) (by rw [List.map_id]; exact h2) hz (fun b hb => by have := h3 b hb; show X.A.in1.units + 1 + b.depth < cLine; have : X.A.in1.units = X.A.units + 1 := rfl; omega) fun out hl2 e => ?_))
  obtain ⟨ys, hv, hy⟩ := vals_each e
  obtain ⟨m, he⟩ := PyProof.Rows.sortedHeap_at (vs := acc.toList) (out := out.toArray) hoL
  refine wpAny_pure ⟨_, rfl, .ref p, upd H p (.lst ys), I1.laid (t' := tk) (fun b o eb => ?_) (Nat.le_of_eq hp) ⟨by rw [hy.length, List.length_mergeSort]; exact hz, out, m, hv, he⟩, rfl, q ys p hy hnp⟩
  have hb : b < h'.objs.size := Heap.lt_size eb
  rw [PyProof.Rows.sortedHeap_old (by rw [← hp]; exact Nat.ne_of_lt hb) (by show b < (h'.push _).objs.size; rw [Heap.size_push]; exact Nat.lt_succ_of_lt hb)]
  exact old b o eb
/-- what sorted(..) sorts -/
def ctKeys : Ct → List D
  | .l xs => xs
  | .k kvs => kvs.map fun p => keyD p.1
  | .t kvs => kvs.map fun p => .tuple (p.1.map keyD)
theorem keyD_rep {K : PySem.W.Frag} {B : Addr → Prop} {H : Hp} (k : Key) : Rep K B H (kV k) (keyD k) := by
  cases k with
  | inl i => exact .int i
  | inr x => exact .str x
theorem keysD_rep {K : PySem.W.Frag} {B : Addr → Prop} {H : Hp} : ∀ ks : List Key, Reps K B H (ks.map kV) (ks.map keyD)
  | [] => .nil
  | k :: ks => .cons (keyD_rep k) (keysD_rep ks)
theorem paired_map {α β γ : Type} {G : α → β → Prop} {f : α → γ} {g : β → γ} (h : ∀ a b, G a b → f a = g b) : ∀ {as : List α} {bs : List β}, Paired G as bs → as.map f = bs.map g
  | _, _, .nil => rfl
  | _, _, .cons x t => by rw [List.map_cons, List.map_cons, h _ _ x, paired_map h t]
theorem paired_get {α β : Type} {G : α → β → Prop} : ∀ {as : List α} {bs : List β} {j : Nat} {b : β}, Paired G as bs → bs[j]? = some b → ∃ a, as[j]? = some a ∧ G a b
  | _, _, _, _, .nil, e => by simp at e
  | _, _, 0, _, .cons x t, e => by simp at e; subst e; exact ⟨_, rfl, x⟩
  | _, _, j + 1, _, .cons x t, e => by
    obtain ⟨a, h1, h2⟩ := paired_get (j := j) t (by simpa using e)
    exact ⟨a, by simpa using h1, h2⟩
/-- by places -/
theorem each_at {α β : Type} {R : α → β → Prop} : ∀ {as : List α} {bs : List β}, as.length = bs.length → (∀ (j : Nat) (a : α) (b : β), as[j]? = some a → bs[j]? = some b → R a b) → PySem.W.EachIs R as bs
  | [], [], _, _ => .nil
  | [], _ :: _, h, _ => by simp at h
  | _ :: _, [], h, _ => by simp at h
  | a :: as, b :: bs, h, k => .cons (k 0 a b rfl rfl) (each_at (by simpa using h) fun j a' b' e1 e2 => k (j + 1) a' b' (by simpa using e1) (by simpa using e2))
def rSortC (K : PySem.W.Frag) : List V → Hp → VK → Prop := fun vs H Q => ∃ (a : Addr) (c : Ct) (B : Addr → Prop), vs = [V.ref a] ∧ HasCt K B H a c ∧ (∀ b, B b → Bd H b) ∧ srtOk (ctKeys c) = true ∧ (ctKeys c).length ≤ sizeLine ∧
  ∀ ys p, Reps K B H ys (srtD (ctKeys c)) → H p = none → Q (.ref p) (upd H p (.lst ys))
theorem cr_sortC {X : Cx} (hu : X.A.units + 64 < cLine) (hc : X.calm = true) : CallR X (.builtin "sorted") (rSortC X.K) := by
  intro pins s σ H vs us Q I r h
  obtain ⟨a, c, B, rfl, hct, nb, ho, hz, q⟩ := h
  obtain ⟨u, rfl, ru⟩ := vals1 r
  obtain rfl : u = Value.ref a := ru
  cases c with
  | l xs =>
    obtain ⟨vs, e, rr⟩ := hct
    exact cr_sortL hu pins s σ H _ _ Q I r ⟨a, vs, xs, B, rfl, .inl (.inl e), rr, ho, hz, q⟩
  | k kvs =>
    obtain ⟨ws, e, pr⟩ := hct
    obtain ⟨z, lo, vs, rel, dd⟩ := dk_of I.hok e
    obtain ⟨ep, hat⟩ := dd.dictAt
    have hks : vs.map (·.1) = kvs.map (·.1) := by rw [← rel.keys]; exact paired_map (fun _ _ z => z.1) pr
    have hl : vs.length = kvs.length := by have := congrArg List.length hks; simpa using this
    refine sort_src (ds := ctKeys (.k kvs)) hu hc I (PySem.W.kdl_dict (knd := mixKind X.prog X.w) (kvs := vs) (ep := ep) lo) hat (by rw [hl, ← paired_length pr]; exact z) ho hz (fun h' tk acc hk hacc => ?_) q
    refine each_at (by rw [Array.length_toList, hacc.1, hl]; unfold ctKeys; rw [List.length_map]) fun j u d e1 e2 => ?_
    obtain ⟨k, x, e3, e4⟩ := hacc.2 j u (by rw [← Array.getElem?_toList]; exact e1)
    have e5 : (kvs.map (·.1))[j]? = some k := by rw [← hks, List.getElem?_map, e3]; rfl
    have ed : d = keyD k := by
      unfold ctKeys at e2
      rw [List.getElem?_map] at e2 e5
      cases e6 : kvs[j]? with
      | none => rw [e6] at e2; cases e2
      | some p => rw [e6] at e2 e5; cases e2; cases e5; rfl
    subst ed
    have ru : RelV (kV k) u := by
      rcases keyIs_shape (show keyIs k u = true from e4) with ⟨i, t, rfl, rfl⟩ | ⟨i, t, rfl, rfl⟩ <;> exact ⟨t, rfl⟩
    exact ⟨⟨kV k, ru, keyD_rep k⟩, fun h2 _ => key_reads ru⟩
  | t kvs =>
    obtain ⟨ws, e, pr⟩ := hct
    obtain ⟨z, lo, ks, kt, o, es, ep, h1, h2, h3, h4, h5⟩ := (show ObjOk X.prog X.w H s.heap a (.dT ws) from I.hok a _ e)
    have l1 : es.size = ks.length := size_of_entries h4
    have l2 : ws.length = ks.length := Paired.length kt
    refine sort_src (ds := ctKeys (.t kvs)) hu hc I (kdl_raw lo h2 h3) h1 (by omega) ho hz (fun h' tk acc hk hacc => ?_) q
    refine each_at (by rw [Array.length_toList, hacc.1, l1, ← l2, paired_length pr]; unfold ctKeys; rw [List.length_map]) fun j u d e1 e2 => ?_
    obtain ⟨en, e3, e4⟩ := hacc.2 j u (by rw [← Array.getElem?_toList]; exact e1)
    have qe := entry_at h4 j
    rw [e3] at qe
    cases eb : ks[j]? with
    | none => rw [eb] at qe; cases qe
    | some b =>
      rw [eb] at qe
      have e6 : en = entryOfKey (tupleKind (mixKind X.prog X.w)) b := Option.some.inj qe
      have eu : u = .ref b.2.1 := by rw [e4, e6]; rfl
      obtain ⟨w, ew, hw1, hw2, _⟩ := paired_get kt eb
      have ed : d = .tuple (w.1.map keyD) := by
        unfold ctKeys at e2
        rw [List.getElem?_map] at e2
        cases e7 : kvs[j]? with
        | none => rw [e7] at e2; cases e2
        | some p =>
          rw [e7] at e2
          cases e2
          obtain ⟨w', ew', hw', _⟩ := paired_get pr e7
          rw [ew] at ew'
          cases ew'
          rw [hw']
      subst eu ed
      have hb : ¬ B b.2.1 := fun z => by
        obtain ⟨o', e', nt⟩ := nb _ z
        rw [hw2] at e'
        cases e'
        exact nt _ rfl
      refine ⟨⟨.ref b.2.1, rfl, .tup ⟨hw2, hb⟩ (keysD_rep w.1)⟩, fun h2 kp => ?_⟩
      obtain ⟨_, its, r2, ob, g1, g2, n, g3⟩ := (show ObjOk X.prog X.w H s.heap b.2.1 (.tup (w.1.map kV)) from I.hok _ _ hw2)
      exact Reads.tuple (kp _ _ g1) g2 g3 (by simpa using keys_reads r2)
section
variable {CX : CXT} {k : Nat} {wd : Wd} {N : List Str} {sc : Scope} {X : Cx} {ρ : List Sl} {a b : Expr} {pos p : Pos} {ra rb : R D} {x y : Str} {py : Pos} {i : Nat} {sl : Sl} {ct : Ct}
theorem bv_sorted : bootBuiltins "sorted" = some (.builtin "sorted") := by decide +kernel
/-- sorted(d), d an object of the def's own, or borrowed -/
theorem evl_sortedC [Calm wd] (c : Cw CX k wd N sc X) (Bt : Bt X.mg) (hg : glB sc "sorted" = true) (hv : visB sc x = true) (hN : N[i]? = some x) (hρ : ρ[i]? = some sl) (hc : sl.ct = some ct) : EvL X wd ρ (.Call (.Name "sorted" p) [.Name x py] [] pos) (sortL (ctKeys ct)) := fun F ad σ H Q s q => by
  obtain ⟨v1, v2, v3⟩ := c.vis hv
  refine be (pe_callB (cr_sortC c.u64 c.calm) (c.gl hg).1 Bt.sorted bv_sorted (pa_cons (pe_var (i := i) (by rw [c.hN]; exact hN) v1 v2 v3) pa_nil rfl) (c.gl hg).2.2 (c.gl hg).2.1 rfl rfl) ?_
  obtain ⟨a, e, h, _⟩ := ct_at s hρ hc
  obtain ⟨ho, q⟩ := wp_ite q
  refine ⟨_, e, a, ct, Ban F ρ ad, rfl, h, fun b z => s.banned z, ho.1, ho.2, fun ys p hy hp => q _ _ _ (Grow.same (same_upd hp)) hp upd_same ?_⟩
  refine (hy.ban fun b z => ?_).stay (same_stay (same_upd hp))
  rcases z with z | rfl
  · exact .inl z
  · exact .inr hp
/-- sorted(a), data -/
theorem evl_sorted (c : Cw CX k wd N sc X) (Bt : Bt X.mg) (hg : glB sc "sorted" = true) (ha : EvB X wd ρ a ra) (he : Plain X a := by exact fun _ => rfl) : EvL X wd ρ (.Call (.Name "sorted" p) [a] [] pos) (ra.bind fun x => sortedR x) := fun F ad σ H Q s q => by
  refine be (pe_callB (cr_sortL c.u64) (c.gl hg).1 Bt.sorted bv_sorted (pa_cons pe_b pa_nil (he [])) (c.gl hg).2.2 (c.gl hg).2.1 (he []) rfl) ?_
  rw [wp_bind] at q
  refine ha F ad σ H _ s (wp_mono (fun d q v H1 g1 r1 => ?_) (fun _ _ z => z) q)
  cases d with
  | list ds =>
    obtain ⟨a, vs, rfl, h1, rr⟩ := r1.list
    obtain ⟨ho, q⟩ := wp_ite q
    refine ⟨a, vs, ds, Ban F ρ ad, rfl, .inl h1, rr, ho.1, ho.2, fun ys p hy hp => q _ _ _ (g1.trans (Grow.same (same_upd hp))) (free_grow s g1 hp) upd_same ?_⟩
    refine (hy.ban fun b z => ?_).stay (same_stay (same_upd hp))
    rcases z with z | rfl
    · exact .inl z
    · exact .inr hp
  | _ => exact q.elim
/-- any(a), data -/
theorem ev_anyT [Calm wd] (c : Cw CX k wd N sc X) (B : Bt X.mg) (hg : glB sc "any" = true) (ha : EvB X wd ρ a ra) (he : Plain X a := by exact fun _ => rfl) : Ev X wd ρ (.Call (.Name "any" p) [a] [] pos) (ra.bind fun x => anyT x) := ev_b1 c (cr_anyT c.calm) calS_anyT hg B.any bv_any ha he
end
end Pu
/-! Prt: new objects handed back; more comprehensions; tuples of the module. -/
namespace Pu
open PySem PySem.Spec PyProof.Rows L2 R
def decK : D → Option (List (Key × D))
  | .dict kvs => allSome (fun p => (keyOf p.1).map fun k => (k, p.2)) kvs
  | _ => none
def decT : D → Option (List (List Key × D))
  | .dict ((.none, .none) :: kvs) => allSome (fun p => (keysOf p.1).map fun k => (k, p.2)) kvs
  | _ => none
theorem keyOf_keyD (k : Key) : keyOf (keyD k) = some k := by cases k <;> rfl
theorem allSome_map {α β γ : Type} {f : β → Option γ} {g : α → β} {h : α → γ} (e : ∀ a, f (g a) = some (h a)) : ∀ xs : List α, allSome f (xs.map g) = some (xs.map h)
  | [] => rfl
  | x :: xs => by rw [List.map_cons, List.map_cons]; unfold allSome; rw [e, allSome_map e xs]
theorem keysOf_map (ks : List Key) : keysOf (.tuple (ks.map keyD)) = some ks := by
  have := allSome_map (f := keyOf) (g := keyD) (h := id) keyOf_keyD ks
  rw [List.map_id] at this
  exact this
theorem decK_encK (kvs : List (Key × D)) : decK (encK kvs) = some kvs := by
  unfold decK encK
  have := allSome_map (f := fun p : D × D => (keyOf p.1).map fun k => (k, p.2)) (g := fun p : Key × D => (keyD p.1, p.2)) (h := id) (fun a => by simp [keyOf_keyD]) kvs
  rw [List.map_id] at this
  exact this
theorem decT_encT (kvs : List (List Key × D)) : decT (encT kvs) = some kvs := by
  unfold decT encT
  have := allSome_map (f := fun p : D × D => (keysOf p.1).map fun k => (k, p.2)) (g := fun p : List Key × D => (.tuple (p.1.map keyD), p.2)) (h := id) (fun a => by simp [keysOf_map]) kvs
  rw [List.map_id] at this
  exact this
theorem decK_enc {c : Ct} {kvs : List (Key × D)} (h : decK (encC c) = some kvs) : c = .k kvs := by
  cases c with
  | l xs => cases h
  | k kvs' => rw [show encC (.k kvs') = encK kvs' from rfl, decK_encK] at h; cases h; rfl
  | t kvs' => cases h
theorem decT_enc {c : Ct} {kvs : List (List Key × D)} (h : decT (encC c) = some kvs) : c = .t kvs := by
  cases c with
  | l xs => cases h
  | k kvs' =>
    cases kvs' with
    | nil => cases h
    | cons p r =>
      obtain ⟨k, v⟩ := p
      cases k <;> cases h
  | t kvs' => rw [show encC (.t kvs') = encT kvs' from rfl, decT_encT] at h; cases h; rfl
def asK {α : Type} (d : D) (f : List (Key × D) → R α) : R α := match decK d with
  | some kvs => f kvs
  | none => bad
def asT {α : Type} (d : D) (f : List (List Key × D) → R α) : R α := match decT d with
  | some kvs => f kvs
  | none => bad
def asTN {α : Type} (d : D) (g : R α) (f : List (List Key × D) → R α) : R α := match d with
  | .none => g
  | _ => asT d f
def isDict : D → Bool
  | .dict _ => true
  | _ => false
/-- a tuple of data, a dict by tuples, a dict by ints and texts -/
def unpDTK {α : Type} (d : D) (f : D → List (List Key × D) → List (Key × D) → R α) : R α := match d with
  | .tuple [x, y, z] => if isDict x = true then bad else asT y fun kt => asK z fun kk => f x kt kk
  | _ => bad
section
variable {K : PySem.W.Frag} {dr : Drs} {nw B : Addr → Prop} {H : Hp} {v : V} {d : D} {own : Bool}
theorem dec_rep {c : Ct} (h : Rep K B H v (encC c)) : False := by
  cases c <;> exact RepB.nodict (dr := none) (.inl h)
theorem decK_is {kvs : List (Key × D)} (h : decK d = some kvs) : ∃ l, d = .dict l := by
  cases d with
  | dict l => exact ⟨l, rfl⟩
  | _ => cases h
theorem decT_is {kvs : List (List Key × D)} (h : decT d = some kvs) : ∃ l, d = .dict l := by
  cases d with
  | dict l => exact ⟨l, rfl⟩
  | _ => cases h
theorem ret_one (h : RetO own dr K nw B H v d) (hd : ∃ l, d = .dict l) : ∃ a c, v = .ref a ∧ d = encC c ∧ ¬ B a ∧ ¬ Has dr a ∧ nw a ∧ HasCt K (fun b => B b ∨ b = a) H a c := by
  obtain ⟨l, rfl⟩ := hd
  rcases h with h | ⟨_, as, h1, h2, h3⟩
  · exact (RepB.nodict (dr := none) (.inl h)).elim
  · generalize hx : PyData.dict l = x at h3
    cases h3 with
    | @one a c hc =>
      obtain ⟨n1, n2, n3⟩ := h2 a (by simp)
      exact ⟨a, c, rfl, rfl, n1, n2, n3, hc.weak fun b z => z.imp id (by simp)⟩
    | tup => cases hx
end
theorem setOwn_ban {F : Addr → Prop} {ρ : List Sl} {ad : Nat → Addr} {i : Nat} {a : Addr} {sl : Sl} {b : Addr} (h : Ban F (ρ.set i sl) (fun j => if j = i then a else ad j) b) : Ban F ρ ad b ∨ b = a := by
  rcases h with b | ⟨j, ⟨t, et, qt⟩, e⟩
  · exact .inl (.inl b)
  · by_cases hj : j = i
    · simp only [hj, if_true] at e; exact .inr e.symm
    · simp only [hj, if_false] at e
      rw [List.getElem?_set_ne (Ne.symm hj)] at et
      exact .inl (.inr ⟨j, ⟨t, et, qt⟩, e⟩)
theorem StOk.setC {K : PySem.W.Frag} {dr : Drs} {F : Addr → Prop} {ρ : List Sl} {σ : L2.St} {H H' : Hp} {ad : Nat → Addr} (s : StOk K dr F ρ σ H ad) (g : Grow dr H H') {i : Nat} {a : Addr} {c : Ct} (ha : H a = none) (hc : HasCt K (fun b => Ban F ρ ad b ∨ b = a) H' a c) :
    StOk K dr F (ρ.set i c.sl) (σ.set i (some (.ref a))) H' (fun j => if j = i then a else ad j) :=
  s.setOwn g ha (sl_own c) (sl_ok rfl (hc.weak fun b z => setOwn_ban z))
section
variable {CX : CXT} {k j : Nat} {wd : Wd} {N : List Str} {sc : Scope} {X : Cx} {ρ : List Sl} {es : List Expr} {e a b : Expr} {pos p py px pz pt spos : Pos} {f x y z : Str} {i l n : Nat} {m : List Ar → R D} {M : R D} {ra rb : R D}
variable {S S1 B T : Type} {eS : S → List Sl} {eS1 : S1 → List Sl} {eB : B → List Sl} {eT : T → List Sl} {rest A1 B1 : List Stmt}
/-- x = f(..), where f hands back a new dict -/
theorem run_callD [Calm wd] (c : Cd CX k wd N sc X) (W : NoW wd) (G : Df X.prog X.w X.K X.mg X.base CX j f (spX X.K true id (fun _ => []) m)) (hj : j ≤ k) (hg : glB sc f = true) (hx : lcB sc x = true) (hN : N[i]? = some x) (hi : wd.pin i = false) (hcs : CallS X wd ρ [] [] [] (e :: es) M m) {o : D → R (Out S B T)}
    (hno : ∀ d, (∃ l, d = .dict l) ∨ (d = .none ∧ Run X wd eS eB eT (ρ.set i (.d .none)) rest (o .none)) ∨ o d = bad) (hr : ∀ ct : Ct, o (encC ct) = bad ∨ Run X wd eS eB eT (ρ.set i ct.sl) rest (o (encC ct)))
    (he : starEach (e :: es) X.env = (false, eval e X.env) :: starEach es X.env) (hpl : (backTo pos (starEach es X.env)).any (·.1) = false) {px : Pos} (hs2 : swapsWith (.Call (.Name f p) (e :: es) [] pos) (some (.Name x px)) py.line X.env = pure false) :
    Run X wd eS eB eT ρ (.Assign [.Name x px] (.Call (.Name f p) (e :: es) [] pos) py :: rest) (M.bind o) := fun F ad σ H Dn s q => by
  refine bss (pss_cons (ps_set c.nd' (c.at hN) (c.loc hx) pe_b hs2 (.inl (c.fn x))) pss_b) ?_
  rw [wp_bind] at q
  refine call_read c.toCw W G hj hg (I := []) (by simp) List.nodup_nil hcs he hpl s (wp_mono (fun d q v H' g ou rt => ?_) (fun _ _ z => z.no W s) q)
  have g := GrowO.nil g
  rcases hno d with hd | ⟨rfl, hrn⟩ | hb
  · obtain ⟨a, ct, rfl, rfl, n1, n2, n3, hc⟩ := ret_one rt hd
    rcases hr ct with hb | hr
    · rw [hb] at q; exact q.elim
    · exact hr F _ _ H' Dn (s.setC g n3 hc) (wp_adv (.trans (.setOwn n3 hi) (.grow g)) q)
  · have rv : Rep X.K (Ban F ρ ad) H' v .none := by
      rcases rt with h | ⟨_, as, h1, h2, h3⟩
      · exact h
      · generalize hx : id PyData.none = x at h3
        cases h3 with
        | @one a c hc => cases c <;> cases hx
        | tup => cases hx
    exact hrn F ad _ H' Dn ((s.grow g).set rv) (wp_adv (.trans (.grow g) .set) q)
  · rw [hb] at q; exact q.elim
theorem run_callT [Calm wd] (c : Cd CX k wd N sc X) (W : NoW wd) (G : Df X.prog X.w X.K X.mg X.base CX j f (spX X.K true id (fun _ => []) m)) (hj : j ≤ k) (hg : glB sc f = true) (hx : lcB sc x = true) (hN : N[i]? = some x) (hi : wd.pin i = false) (hcs : CallS X wd ρ [] [] [] (e :: es) M m) {o : List (List Key × D) → R (Out S B T)} (hr : ∀ kvs, Run X wd eS eB eT (ρ.set i (.kt kvs)) rest (o kvs))
    (he : starEach (e :: es) X.env = (false, eval e X.env) :: starEach es X.env := by rfl) (hpl : (backTo pos (starEach es X.env)).any (·.1) = false := by rfl) {px : Pos} (hs2 : swapsWith (.Call (.Name f p) (e :: es) [] pos) (some (.Name x px)) py.line X.env = pure false := by rfl) :
    Run X wd eS eB eT ρ (.Assign [.Name x px] (.Call (.Name f p) (e :: es) [] pos) py :: rest) (M.bind fun d => asT d o) :=
  run_callD c W G hj hg hx hN hi hcs (o := fun d => asT d o) (fun d => by
    unfold asT
    cases hd : decT d with
    | none => exact .inr (.inr rfl)
    | some kvs => exact .inl (decT_is hd)) (fun ct => by
    unfold asT
    cases hd : decT (encC ct) with
    | none => exact .inl rfl
    | some kvs => rw [decT_enc hd]; exact .inr (hr kvs)) he hpl hs2
theorem run_callK [Calm wd] (c : Cd CX k wd N sc X) (W : NoW wd) (G : Df X.prog X.w X.K X.mg X.base CX j f (spX X.K true id (fun _ => []) m)) (hj : j ≤ k) (hg : glB sc f = true) (hx : lcB sc x = true) (hN : N[i]? = some x) (hi : wd.pin i = false) (hcs : CallS X wd ρ [] [] [] (e :: es) M m) {o : List (Key × D) → R (Out S B T)} (hr : ∀ kvs, Run X wd eS eB eT (ρ.set i (.k kvs)) rest (o kvs))
    (he : starEach (e :: es) X.env = (false, eval e X.env) :: starEach es X.env := by rfl) (hpl : (backTo pos (starEach es X.env)).any (·.1) = false := by rfl) {px : Pos} (hs2 : swapsWith (.Call (.Name f p) (e :: es) [] pos) (some (.Name x px)) py.line X.env = pure false := by rfl) :
    Run X wd eS eB eT ρ (.Assign [.Name x px] (.Call (.Name f p) (e :: es) [] pos) py :: rest) (M.bind fun d => asK d o) :=
  run_callD c W G hj hg hx hN hi hcs (o := fun d => asK d o) (fun d => by
    unfold asK
    cases hd : decK d with
    | none => exact .inr (.inr rfl)
    | some kvs => exact .inl (decK_is hd)) (fun ct => by
    unfold asK
    cases hd : decK (encC ct) with
    | none => exact .inl rfl
    | some kvs => rw [decK_enc hd]; exact .inr (hr kvs)) he hpl hs2
/-- None or a new dict -/
theorem run_callTN [Calm wd] (c : Cd CX k wd N sc X) (W : NoW wd) (G : Df X.prog X.w X.K X.mg X.base CX j f (spX X.K true id (fun _ => []) m)) (hj : j ≤ k) (hg : glB sc f = true) (hx : lcB sc x = true) (hN : N[i]? = some x) (hi : wd.pin i = false) (hcs : CallS X wd ρ [] [] [] (e :: es) M m) {o1 : R (Out S B T)} {o : List (List Key × D) → R (Out S B T)} (hr1 : Run X wd eS eB eT (ρ.set i (.d .none)) rest o1) (hr : ∀ kvs, Run X wd eS eB eT (ρ.set i (.kt kvs)) rest (o kvs))
    (he : starEach (e :: es) X.env = (false, eval e X.env) :: starEach es X.env := by rfl) (hpl : (backTo pos (starEach es X.env)).any (·.1) = false := by rfl) {px : Pos} (hs2 : swapsWith (.Call (.Name f p) (e :: es) [] pos) (some (.Name x px)) py.line X.env = pure false := by rfl) :
    Run X wd eS eB eT ρ (.Assign [.Name x px] (.Call (.Name f p) (e :: es) [] pos) py :: rest) (M.bind fun d => asTN d o1 o) :=
  run_callD c W G hj hg hx hN hi hcs (o := fun d => asTN d o1 o) (fun d => by
    cases d with
    | none => exact .inr (.inl ⟨rfl, hr1⟩)
    | dict l => exact .inl ⟨l, rfl⟩
    | _ => exact .inr (.inr rfl)) (fun ct => by
    have e : asTN (encC ct) o1 o = asT (encC ct) o := by cases ct <;> rfl
    rw [e]
    unfold asT
    cases hd : decT (encC ct) with
    | none => exact .inl rfl
    | some kvs => rw [decT_enc hd]; exact .inr (hr kvs)) he hpl hs2
/-- x, y, z = f(..): data, a dict by tuples, a dict by ints and texts -/
theorem run_callDTK [Calm wd] (c : Cd CX k wd N sc X) (W : NoW wd) (G : Df X.prog X.w X.K X.mg X.base CX j f (spX X.K true id (fun _ => []) m)) (hj : j ≤ k) (hg : glB sc f = true) (hx : lcB sc x = true) (hN : N[i]? = some x) (hi : wd.pin i = false) (hy : lcB sc y = true) (hN2 : N[l]? = some y) (hi2 : wd.pin l = false) (hz : lcB sc z = true) (hN3 : N[n]? = some z) (hi3 : wd.pin n = false) (d12 : l ≠ i) (d13 : n ≠ i) (d23 : n ≠ l)
    (hcs : CallS X wd ρ [] [] [] (e :: es) M m) {o : D → List (List Key × D) → List (Key × D) → R (Out S B T)} (hr : ∀ d kt kk, Run X wd eS eB eT (((ρ.set i (.d d)).set l (.kt kt)).set n (.k kk)) rest (o d kt kk))
    (he : starEach (e :: es) X.env = (false, eval e X.env) :: starEach es X.env := by rfl) (hpl : (backTo pos (starEach es X.env)).any (·.1) = false := by rfl) {kt : Nat}
    (hs : swapsWithSole [.Tuple [.Name x px, .Name y py, .Name z pz] kt pt] (.Call (.Name f p) (e :: es) [] pos) spos.line X.env = pure false := by rfl) (hw : swappedStores [.Tuple [.Name x px, .Name y py, .Name z pz] kt pt] (.Call (.Name f p) (e :: es) [] pos) X.env = pure none := by rfl) (h1 : (assignEach [.Tuple [.Name x px, .Name y py, .Name z pz] kt pt] X.env).map (·.2) = [assign (.Tuple [.Name x px, .Name y py, .Name z pz] kt pt) X.env] := by rfl) :
    Run X wd eS eB eT ρ (.Assign [.Tuple [.Name x px, .Name y py, .Name z pz] kt pt] (.Call (.Name f p) (e :: es) [] pos) spos :: rest) (M.bind fun d => unpDTK d o) := fun F ad σ H Dn s q => by
  refine bss (pss_cons (ps_asg pe_b (pg_tup (n := 3) c.calm (pgn_cons c hx hN (pgn_cons c hy hN2 (pgn_cons c hz hN3 pgn_nil)))) hs hw h1) pss_b) ?_
  rw [wp_bind] at q
  refine call_read c.toCw W G hj hg (I := []) (by simp) List.nodup_nil hcs he hpl s (wp_mono (fun d q0 v H' g0 ou rt0 => ?_) (fun _ _ z => z.no W s) q)
  have g := GrowO.nil g0
  have q : (unpDTK d o).wp (OutOk X wd eS eB eT F ρ ad H Dn) (XPs X wd F ρ ad H) := q0
  have rt : RetO true wd.dr X.K (fun a => H a = none) (Ban F ρ ad) H' v d := rt0
  clear q0 rt0 g0 ou
  rcases d with _ | _ | _ | _ | _ | xs | _
  all_goals (first | exact False.elim q | skip)
  rcases xs with _ | ⟨d1, _ | ⟨d2, _ | ⟨d3, _ | ⟨d4, xs⟩⟩⟩⟩
  all_goals (first | exact False.elim q | skip)
  · unfold unpDTK at q
    simp only at q
    by_cases hd : isDict d1 = true
    · rw [if_pos hd] at q; exact q.elim
    rw [if_neg hd] at q
    unfold asT asK at q
    cases e2 : decT d2 with
    | none => rw [e2] at q; exact q.elim
    | some kt =>
      cases e3 : decK d3 with
      | none => rw [e2, e3] at q; exact q.elim
      | some kk =>
        rw [e2, e3] at q
        simp only at q
        rcases rt with rt | ⟨_, as, n1, n2, n3⟩
        · obtain ⟨a, vs, _, _, rr⟩ := rt.tuple
          cases rr with
          | cons _ rr =>
            cases rr with
            | cons r2 _ =>
              obtain ⟨l, rfl⟩ := decT_is e2
              exact (RepB.nodict (dr := none) (.inl r2)).elim
        generalize hgen : PyData.tuple [d1, d2, d3] = dd at n3
        cases n3 with
        | one hc => rename_i c; cases c <;> cases hgen
        | @tup p vs ds as hp rl =>
          cases hgen
          cases rl with
          | @o a0 c0 vs0 _ as0 hc0 rl0 => cases c0 <;> exact absurd rfl hd
          | @d v1 _ vs1 _ _ r1 rl =>
            cases rl with
            | d r2 _ => obtain ⟨l, rfl⟩ := decT_is e2; exact (RepB.nodict (dr := none) (.inl r2)).elim
            | @o a c2 vs2 _ as1 hc2 rl =>
              cases rl with
              | d r2 _ => obtain ⟨l, rfl⟩ := decK_is e3; exact (RepB.nodict (dr := none) (.inl r2)).elim
              | @o b c3 vs3 _ as2 hc3 rl =>
                cases rl
                have ec2 := decT_enc e2
                have ec3 := decK_enc e3
                subst ec2 ec3
                have hab : a ≠ b := by
                  rw [List.nodup_cons] at n1
                  exact fun z => n1.1 (by rw [z]; simp)
                obtain ⟨na, _, fa⟩ := n2 a (by simp)
                obtain ⟨nb, _, fb⟩ := n2 b (by simp)
                -- the heap ahead of the second object
                have g1 : Grow wd.dr H (fun u => if u = b then none else H' u) := ⟨fun u o eu nu => by
                  have : u ≠ b := fun z => by rw [z, fb] at eu; cases eu
                  show (if u = b then none else H' u) = _
                  rw [if_neg this]
                  exact g.keep u o eu nu, fun a' l' ed da => by
                  have z1 : a' ≠ b := fun z => by obtain ⟨_, e, _⟩ := da.bd; rw [z, fb] at e; cases e
                  have z2 : l' ≠ b := fun z => by obtain ⟨_, e, _⟩ := da.bdl; rw [z, fb] at e; cases e
                  exact (g.draw a' l' ed da).imp (fun x ex => by show (if a' = b then none else H' a') = _; rw [if_neg z1]; exact ex) fun x ex => by show (if l' = b then none else H' l') = _; rw [if_neg z2]; exact ex⟩
                have g2 : Grow wd.dr (fun u => if u = b then none else H' u) H' := ⟨fun u o eu nu => by
                  have eu : (if u = b then none else H' u) = some o := eu
                  split at eu
                  · cases eu
                  · exact eu, fun a' l' ed da => by
                  have k : ∀ {u : Addr} {o : HO}, (if u = b then none else H' u) = some o → H' u = some o := fun {u o} eu => by
                    split at eu
                    · cases eu
                    · exact eu
                  exact da.imp (fun x ex => k ex) fun x ex => k ex⟩
                have st : Stay (fun u => Ban F ρ ad u ∨ u ∈ [a, b]) H' (fun u => if u = b then none else H' u) := fun u o eu nu => by
                  show (if u = b then none else H' u) = _
                  rw [if_neg fun z => nu (.inr (by simp [z]))]
                  exact eu
                have hc2' : HasCt X.K (fun u => Ban F ρ ad u ∨ u = a) (fun u => if u = b then none else H' u) a (.t kt) := (hc2.mono (fun _ _ r => r.stay st) (fun _ _ r => r.stay st) fun o eo => by
                  show (if a = b then none else H' a) = _
                  rw [if_neg hab]
                  exact eo).weak fun u z => z.imp id fun z => by simp [z]
                have r1' : Rep X.K (fun u => Ban F ρ ad u ∨ u ∈ [a, b]) (fun u => if u = b then none else H' u) v1 d1 := r1.stay st
                have s1 := s.setC (i := l) g1 fa hc2'
                have r1'' : Rep X.K (Ban F (ρ.set l (Ct.t kt).sl) fun j => if j = l then a else ad j) (fun u => if u = b then none else H' u) v1 d1 := r1'.weak fun u z => by
                  rcases setOwn_ban z with z | z
                  · exact .inl z
                  · exact .inr (by simp [z])
                have s2 := s1.set (i := i) r1''
                have hb1 : (fun u => if u = b then none else H' u) b = none := by show (if b = b then none else H' b) = _; rw [if_pos rfl]
                have s3 := s2.setC (i := n) (a := b) (c := .k kk) g2 hb1 (hc3.weak fun u z => by
                  rcases z with z | z
                  · rcases setOwn_ban (ban_set z) with z | z
                    · exact .inl z
                    · exact .inr (by simp [z])
                  · exact .inr (by simp [z]))
                have eρ : (((ρ.set l (Ct.t kt).sl).set i (.d d1)).set n (Ct.k kk).sl) = (((ρ.set i (.d d1)).set l (.kt kt)).set n (.k kk)) := by
                  rw [List.set_comm _ _ d12]
                  rfl
                rw [eρ] at s3
                have eσ : (((σ.set l (some (V.ref a))).set i (some v1)).set n (some (V.ref b))) = (((σ.set i (some v1)).set l (some (V.ref a))).set n (some (V.ref b))) := by rw [List.set_comm _ _ d12]
                rw [eσ] at s3
                have av : Adv wd ρ ad H (((ρ.set i (.d d1)).set l (.kt kt)).set n (.k kk)) (fun j => if j = n then b else if j = l then a else ad j) H' := by
                  rw [← eρ]
                  exact (Adv.setOwn fa hi2).trans ((Adv.grow g1).trans (Adv.set.trans ((Adv.setOwn (sl := (Ct.k kk).sl) hb1 hi3).trans (.grow g2))))
                refine ⟨p, _, rfl, .inl (.inl hp), rfl, v1, _, rfl, .ref a, _, rfl, .ref b, _, rfl, rfl, ?_⟩
                exact hr d1 kt kk F _ _ H' Dn s3 (wp_adv av q)
/-- return x, an object of the def's own -/
theorem run_retC (c : Cd CX k wd N sc X) (ho : wd.own = true) {ct : Ct} {sl : Sl} (hx : visB sc x = true) (hN : N[i]? = some x) (hρ : ρ[i]? = some sl) (hc : ct.sl = sl) : Run X wd eS eB (fun _ : Unit => []) ρ [.Return (some (.Name x p)) pos] (R.ret (.rt (encC ct) ()) : R (Out S B Unit)) := fun F ad σ H Dn st q => by
  obtain ⟨v1, v2, v3⟩ := c.vis hx
  subst hc
  obtain ⟨ev, hct⟩ := ok_sl (st.sl i _ hρ)
  have ow : Own ρ i := ⟨_, hρ, sl_own ct⟩
  refine bss (pss_one (ps_ret (pe_var (i := i) (c.at hN) v1 v2 v3))) ⟨_, ev, ?_⟩
  have hl : Le (wipeS ρ [i]) ρ := ⟨wipeS_length _, fun j s e => by
    by_cases hj : i = j
    · subst hj
      by_cases hl : i < ρ.length
      · unfold wipeS wipeS at e; rw [List.getElem?_set_self hl] at e; cases e; exact .inl rfl
      · unfold wipeS wipeS at e; rw [List.getElem?_eq_none (by simpa using hl)] at e; cases e
    · unfold wipeS wipeS at e; rw [List.getElem?_set_ne hj] at e; exact .inr (.inl e)⟩
  have nban : ¬ Ban F (wipeS ρ [i]) ad (ad i) := by
    rintro (z | ⟨j, ⟨s, e, qs⟩, ej⟩)
    · exact st.nf i ow z
    · have oj : Own ρ j := hl.own ⟨s, e, qs⟩
      have := st.inj j i oj ow ej
      subst this
      have hlt : j < ρ.length := (List.getElem?_eq_some_iff.mp hρ).1
      unfold wipeS wipeS at e
      rw [List.getElem?_set_self hlt] at e
      cases e; cases qs
  refine q (.ref (ad i)) ad (wipeS ρ [i]) σ H (.less fun _ => hl.own) (st.le hl) (fun j s e => by simp at e) (.inr ⟨ho, [ad i], by simp, fun a ha => ?_, .one (hct.weak fun b z => ?_)⟩)
  · have : a = ad i := by simpa using ha
    subst this
    exact ⟨nban, fun z => st.nf i ow (st.dF z), .inl ⟨i, ow, rfl⟩⟩
  · rcases z with z | z
    · exact hl.ban z
    · have : b = ad i := by simpa using z
      subst this
      exact .inr ⟨i, ow, rfl⟩
/-- return a, x, y -/
theorem run_retC3 (c : Cd CX k wd N sc X) (ho : wd.own = true) {ct ct2 : Ct} {sl sl2 : Sl} (ha : Ev X wd ρ a ra) (hx : visB sc x = true) (hN : N[i]? = some x) (hρ : ρ[i]? = some sl) (hc : ct.sl = sl) (hy : visB sc y = true) (hN2 : N[l]? = some y) (hρ2 : ρ[l]? = some sl2) (hc2 : ct2.sl = sl2) (hne : i ≠ l) {kt : Nat} (hs : Plain X a := by exact fun _ => rfl) :
    Run X wd eS eB (fun _ : Unit => []) ρ [.Return (some (.Tuple [a, .Name x px, .Name y py] kt pt)) pos] (ra.bind fun d => R.ret (.rt (.tuple [d, encC ct, encC ct2]) ()) : R (Out S B Unit)) := fun F ad σ H Dn st q => by
  obtain ⟨v1, v2, v3⟩ := c.vis hx
  obtain ⟨w1, w2, w3⟩ := c.vis hy
  subst hc hc2
  refine bss (pss_one (ps_ret (pe_tup (pa_cons pe_b (pa_cons (pe_var (i := i) (c.at hN) v1 v2 v3) (pa_cons (pe_var (i := l) (c.at hN2) w1 w2 w3) pa_nil rfl) rfl) (hs _))))) ?_
  refine step_ev (o := fun d => R.ret (.rt (.tuple [d, encC ct, encC ct2]) ())) ha st q fun d v H' g r q => ?_
  have s1 := st.grow g
  obtain ⟨ev, hct⟩ := ok_sl (s1.sl i _ hρ)
  obtain ⟨ev2, hct2⟩ := ok_sl (s1.sl l _ hρ2)
  have ow : Own ρ i := ⟨_, hρ, sl_own ct⟩
  have ow2 : Own ρ l := ⟨_, hρ2, sl_own ct2⟩
  refine ⟨_, ev, _, ev2, by show 3 ≤ sizeLine; decide, fun p hp => ?_⟩
  have g2 : Grow wd.dr H' (upd H' p (.tup [v, .ref (ad i), .ref (ad l)])) := Grow.same (same_upd hp)
  have s2 := s1.grow g2
  have hl : Le (wipeS ρ [i, l]) ρ := ⟨wipeS_length _, fun j s e => by
    unfold wipeS wipeS wipeS at e
    by_cases hj : i = j
    · subst hj
      by_cases hl : i < (ρ.set l .no).length
      · rw [List.getElem?_set_self hl] at e; cases e; exact .inl rfl
      · rw [List.getElem?_eq_none (by rw [List.length_set]; omega)] at e; cases e
    · rw [List.getElem?_set_ne hj] at e
      by_cases hj2 : l = j
      · subst hj2
        by_cases hl : l < ρ.length
        · rw [List.getElem?_set_self hl] at e; cases e; exact .inl rfl
        · rw [List.getElem?_eq_none (by rw [List.length_set]; omega)] at e; cases e
      · rw [List.getElem?_set_ne hj2] at e; exact .inr (.inl e)⟩
  have nown : ∀ j, (j = i ∨ j = l) → ¬ Own (wipeS ρ [i, l]) j := by
    rintro j hj ⟨s, e, qs⟩
    have hlt : j < ρ.length := by
      have := (List.getElem?_eq_some_iff.mp e).1
      rw [wipeS_length] at this
      exact this
    unfold wipeS wipeS wipeS at e
    by_cases h1 : i = j
    · subst h1
      rw [List.getElem?_set_self (by rw [List.length_set]; exact hlt)] at e
      cases e; cases qs
    · rw [List.getElem?_set_ne h1] at e
      rcases hj with rfl | rfl
      · exact h1 rfl
      · rw [List.getElem?_set_self hlt] at e
        cases e; cases qs
  have nban : ∀ t, Own ρ t → (t = i ∨ t = l) → ¬ Ban F (wipeS ρ [i, l]) ad (ad t) := by
    rintro t ot ht (z | ⟨j, oj, ej⟩)
    · exact st.nf t ot z
    · have := st.inj j t (hl.own oj) ot ej
      subst this
      exact nown _ ht oj
  have hne' : ad i ≠ ad l := fun z => hne (st.inj i l ow ow2 z)
  have st2 : Stay (Ban F ρ ad) H' (upd H' p (.tup [v, .ref (ad i), .ref (ad l)])) := s1.stays g2
  have wk : ∀ b, (Ban F (wipeS ρ [i, l]) ad b ∨ b ∈ [ad i, ad l]) → Ban F ρ ad b := fun b z => by
    rcases z with z | z
    · exact hl.ban z
    · simp only [List.mem_cons, List.not_mem_nil, or_false] at z
      rcases z with rfl | rfl
      · exact .inr ⟨i, ow, rfl⟩
      · exact .inr ⟨l, ow2, rfl⟩
  have keep : ∀ {t : Nat} {o : HO}, Own ρ t → H' (ad t) = some o → upd H' p (.tup [v, .ref (ad i), .ref (ad l)]) (ad t) = some o := fun {t o} ot eo => by rw [upd_ne (ne_of_none eo hp)]; exact eo
  refine q (.ref p) ad (wipeS ρ [i, l]) σ _ (.trans (.grow g2) (.less fun _ => hl.own)) (s2.le hl) (fun j s e => by simp at e) (.inr ⟨ho, [ad i, ad l], by simp [hne'], fun a ha => ?_, .tup upd_same (.d ((r.stay st2).weak wk) (.o ((hct.mono (fun _ _ r => r.stay st2) (fun _ _ r => r.stay st2) fun o eo => keep ow eo).weak wk) (.o ((hct2.mono (fun _ _ r => r.stay st2) (fun _ _ r => r.stay st2) fun o eo => keep ow2 eo).weak wk) .nil)))⟩)
  simp only [List.mem_cons, List.not_mem_nil, or_false] at ha
  rcases ha with rfl | rfl
  · exact ⟨nban i ow (.inl rfl), fun z => st.nf i ow (st.dF z), .inl ⟨i, ow, rfl⟩⟩
  · exact ⟨nban l ow2 (.inr rfl), fun z => st.nf l ow2 (st.dF z), .inl ⟨l, ow2, rfl⟩⟩
end
end Pu
/-! Pct: comprehensions over tuples, tuples of the module, a dict beside {}. -/
namespace Pu
open PySem PySem.Spec PyProof.Rows L2 R
def isT2 : D → R Bool
  | .tuple [_, _] => ret true
  | _ => bad
def isT3 : D → R Bool
  | .tuple [_, _, _] => ret true
  | _ => bad
section
variable {CX : CXT} {k : Nat} {wd : Wd} {N : List Str} {sc : Scope} {X : Cx} {ρ : List Sl} {e a b c tg iter elt t : Expr} {pos p px py pz pt : Pos} {ra rb : R D} {x y z : Str} {i j l : Nat} {sl sl2 sl3 : Sl} {ct : Ct}
theorem isT2_of {i j : Nat} {d : D} {ρ' : List Sl} (h : stT 2 [i, j] ρ d = some ρ') : isT2 d = ret true := by
  obtain ⟨a, b, rfl, _⟩ := stT2 h; rfl
theorem isT2_no {i j : Nat} {d : D} (h : stT 2 [i, j] ρ d = none) : isT2 d = bad := by
  have := stT2n (ρ := ρ) (i := i) (j := j) (f := fun _ _ => (ret true : R Bool)) h
  rw [← this]
  cases d with
  | tuple xs =>
    match xs with
    | [a, b] => rfl
    | [] => rfl
    | [_] => rfl
    | _ :: _ :: _ :: _ => rfl
  | _ => rfl
theorem isT3_of {i j l : Nat} {d : D} {ρ' : List Sl} (h : stT 3 [i, j, l] ρ d = some ρ') : isT3 d = ret true := by
  obtain ⟨a, b, c, rfl, _⟩ := stT3 h; rfl
theorem isT3_no {i j l : Nat} {d : D} (h : stT 3 [i, j, l] ρ d = none) : isT3 d = bad := by
  have := stT3n (ρ := ρ) (i := i) (j := j) (l := l) (f := fun _ _ _ => (ret true : R Bool)) h
  rw [← this]
  cases d with
  | tuple xs =>
    match xs with
    | [a, b, c] => rfl
    | [] => rfl
    | [_] => rfl
    | [_, _] => rfl
    | _ :: _ :: _ :: _ :: _ => rfl
  | _ => rfl
theorem blkg_tup2 [Calm wd] (c : Cw CX k wd N sc X) {scope : Scope} {kt : Nat} (h1 : BlkG X scope (.Name x px) (gName i)) (h2 : BlkG X scope (.Name y py) (gName j)) : BlkG X scope (.Tuple [.Name x px, .Name y py] kt pt) (gTup X.K 2 (gNames [i, j])) :=
  fun s H C cl fp => pg_tup c.calm (pgs_cons (h1 s H C cl fp) (pgs_cons (h2 s H C cl fp) pgs_nil))
theorem blkg_tup3 [Calm wd] (c : Cw CX k wd N sc X) {scope : Scope} {kt : Nat} (h1 : BlkG X scope (.Name x px) (gName i)) (h2 : BlkG X scope (.Name y py) (gName j)) (h3 : BlkG X scope (.Name z pz) (gName l)) : BlkG X scope (.Tuple [.Name x px, .Name y py, .Name z pz] kt pt) (gTup X.K 3 (gNames [i, j, l])) :=
  fun s H C cl fp => pg_tup c.calm (pgs_cons (h1 s H C cl fp) (pgs_cons (h2 s H C cl fp) (pgs_cons (h3 s H C cl fp) pgs_nil)))
/-- [elt for x, y in iter] -/
theorem evl_compT2 [Calm wd] (c : Cw CX k wd N sc X) {scope : Scope} {f : D → D → R D} {r : R (List D)} {kt : Nat} (hok : blkC N sc scope [(x, i), (y, j)] = true) (hN : N[i]? = some x) (hx : tgB scope sc x = true) (hN2 : N[j]? = some y) (hy : tgB scope sc y = true) (hno : ρ[i]? = some sl) (hsl : sl.own = false) (hno2 : ρ[j]? = some sl2) (hsl2 : sl2.own = false)
    (hi : EvJ X wd ρ (.Tuple [.Name x px, .Name y py] kt pt) iter r) (hel : ∀ a b s0 H0 C cl fp, Ev (X.blk s0 H0 scope (compEnvC scope cl C X.env) fp) wd.calm (((wipeS ρ [i, j]).set i (.d a)).set j (.d b)) elt (f a b)) (hs : ∀ x, foldedSetIterable iter X.env x = pure x := by exact fun _ => rfl) :
    EvL X wd ρ (.ListComp elt [⟨.Tuple [.Name x px, .Name y py] kt pt, iter, [], 0⟩] scope pos) (r.bind fun ds => compR isT2 (fun d => unp2 d f) ds []) :=
  evl_compG c (own := [(x, i), (y, j)]) hok (blkg_tup2 c (blkg_name c hN hx) (blkg_name c hN2 hy)) (gs_tup (ρ := wipeS ρ [i, j]) (is := [i, j])) (fun u hu => by
    simp only [List.map_cons, List.map_nil, List.mem_cons, List.not_mem_nil, or_false] at hu
    rcases hu with rfl | rfl
    · exact not_own hno hsl
    · exact not_own hno2 hsl2) hi (Nat.zero_le _) ⟨fun d e => isT2_no e, fun d ρ' e => by obtain ⟨a, b, rfl, rfl⟩ := stT2 e; exact hel a b, fun d ρ' e => isT2_of e⟩ hs
/-- [elt for x, y in iter if t] -/
theorem evl_compT2if [Calm wd] (c : Cw CX k wd N sc X) {scope : Scope} {f : D → D → R D} {cf : D → D → R Bool} {r : R (List D)} {kt : Nat} (hok : blkC N sc scope [(x, i), (y, j)] = true) (hN : N[i]? = some x) (hx : tgB scope sc x = true) (hN2 : N[j]? = some y) (hy : tgB scope sc y = true) (hno : ρ[i]? = some sl) (hsl : sl.own = false) (hno2 : ρ[j]? = some sl2) (hsl2 : sl2.own = false)
    (hi : EvJ X wd ρ (.Tuple [.Name x px, .Name y py] kt pt) iter r) (ht : ∀ a b s0 H0 C cl fp, EvT (X.blk s0 H0 scope (compEnvC scope cl C X.env) fp) wd.calm (((wipeS ρ [i, j]).set i (.d a)).set j (.d b)) t (cf a b)) (hel : ∀ a b s0 H0 C cl fp, Ev (X.blk s0 H0 scope (compEnvC scope cl C X.env) fp) wd.calm (((wipeS ρ [i, j]).set i (.d a)).set j (.d b)) elt (f a b)) (hs : ∀ x, foldedSetIterable iter X.env x = pure x := by exact fun _ => rfl) :
    EvL X wd ρ (.ListComp elt [⟨.Tuple [.Name x px, .Name y py] kt pt, iter, [t], 0⟩] scope pos) (r.bind fun ds => compR (fun d => unp2 d cf) (fun d => unp2 d f) ds []) :=
  evl_compG c (own := [(x, i), (y, j)]) hok (blkg_tup2 c (blkg_name c hN hx) (blkg_name c hN2 hy)) (gs_tup (ρ := wipeS ρ [i, j]) (is := [i, j])) (fun u hu => by
    simp only [List.map_cons, List.map_nil, List.mem_cons, List.not_mem_nil, or_false] at hu
    rcases hu with rfl | rfl
    · exact not_own hno hsl
    · exact not_own hno2 hsl2) hi (Nat.le_refl _) ⟨fun d e => stT2n e, fun d ρ' e => by obtain ⟨a, b, rfl, rfl⟩ := stT2 e; exact hel a b, fun d ρ' e => by obtain ⟨a, b, rfl, rfl⟩ := stT2 e; exact ht a b⟩ hs
theorem evl_compT3 [Calm wd] (c : Cw CX k wd N sc X) {scope : Scope} {f : D → D → D → R D} {r : R (List D)} {kt : Nat} (hok : blkC N sc scope [(x, i), (y, j), (z, l)] = true) (hN : N[i]? = some x) (hx : tgB scope sc x = true) (hN2 : N[j]? = some y) (hy : tgB scope sc y = true) (hN3 : N[l]? = some z) (hz : tgB scope sc z = true) (hno : ρ[i]? = some sl) (hsl : sl.own = false) (hno2 : ρ[j]? = some sl2) (hsl2 : sl2.own = false) (hno3 : ρ[l]? = some sl3) (hsl3 : sl3.own = false)
    (hi : EvJ X wd ρ (.Tuple [.Name x px, .Name y py, .Name z pz] kt pt) iter r) (hel : ∀ a b d s0 H0 C cl fp, Ev (X.blk s0 H0 scope (compEnvC scope cl C X.env) fp) wd.calm ((((wipeS ρ [i, j, l]).set i (.d a)).set j (.d b)).set l (.d d)) elt (f a b d)) (hs : ∀ x, foldedSetIterable iter X.env x = pure x := by exact fun _ => rfl) :
    EvL X wd ρ (.ListComp elt [⟨.Tuple [.Name x px, .Name y py, .Name z pz] kt pt, iter, [], 0⟩] scope pos) (r.bind fun ds => compR isT3 (fun d => unp3 d f) ds []) :=
  evl_compG c (own := [(x, i), (y, j), (z, l)]) hok (blkg_tup3 c (blkg_name c hN hx) (blkg_name c hN2 hy) (blkg_name c hN3 hz)) (gs_tup (ρ := wipeS ρ [i, j, l]) (is := [i, j, l])) (fun u hu => by
    simp only [List.map_cons, List.map_nil, List.mem_cons, List.not_mem_nil, or_false] at hu
    rcases hu with rfl | rfl | rfl
    · exact not_own hno hsl
    · exact not_own hno2 hsl2
    · exact not_own hno3 hsl3) hi (Nat.zero_le _) ⟨fun d e => isT3_no e, fun d ρ' e => by obtain ⟨a, b, d, rfl, rfl⟩ := stT3 e; exact hel a b d, fun d ρ' e => isT3_of e⟩ hs
theorem evl_compT3if [Calm wd] (c : Cw CX k wd N sc X) {scope : Scope} {f : D → D → D → R D} {cf : D → D → D → R Bool} {r : R (List D)} {kt : Nat} (hok : blkC N sc scope [(x, i), (y, j), (z, l)] = true) (hN : N[i]? = some x) (hx : tgB scope sc x = true) (hN2 : N[j]? = some y) (hy : tgB scope sc y = true) (hN3 : N[l]? = some z) (hz : tgB scope sc z = true) (hno : ρ[i]? = some sl) (hsl : sl.own = false) (hno2 : ρ[j]? = some sl2) (hsl2 : sl2.own = false) (hno3 : ρ[l]? = some sl3) (hsl3 : sl3.own = false)
    (hi : EvJ X wd ρ (.Tuple [.Name x px, .Name y py, .Name z pz] kt pt) iter r) (ht : ∀ a b d s0 H0 C cl fp, EvT (X.blk s0 H0 scope (compEnvC scope cl C X.env) fp) wd.calm ((((wipeS ρ [i, j, l]).set i (.d a)).set j (.d b)).set l (.d d)) t (cf a b d)) (hel : ∀ a b d s0 H0 C cl fp, Ev (X.blk s0 H0 scope (compEnvC scope cl C X.env) fp) wd.calm ((((wipeS ρ [i, j, l]).set i (.d a)).set j (.d b)).set l (.d d)) elt (f a b d)) (hs : ∀ x, foldedSetIterable iter X.env x = pure x := by exact fun _ => rfl) :
    EvL X wd ρ (.ListComp elt [⟨.Tuple [.Name x px, .Name y py, .Name z pz] kt pt, iter, [t], 0⟩] scope pos) (r.bind fun ds => compR (fun d => unp3 d cf) (fun d => unp3 d f) ds []) :=
  evl_compG c (own := [(x, i), (y, j), (z, l)]) hok (blkg_tup3 c (blkg_name c hN hx) (blkg_name c hN2 hy) (blkg_name c hN3 hz)) (gs_tup (ρ := wipeS ρ [i, j, l]) (is := [i, j, l])) (fun u hu => by
    simp only [List.map_cons, List.map_nil, List.mem_cons, List.not_mem_nil, or_false] at hu
    rcases hu with rfl | rfl | rfl
    · exact not_own hno hsl
    · exact not_own hno2 hsl2
    · exact not_own hno3 hsl3) hi (Nat.le_refl _) ⟨fun d e => stT3n e, fun d ρ' e => by obtain ⟨a, b, d, rfl, rfl⟩ := stT3 e; exact hel a b d, fun d ρ' e => by obtain ⟨a, b, d, rfl, rfl⟩ := stT3 e; exact ht a b d⟩ hs
/-! ### a tuple of the module -/
theorem ev_inT (c : Cw CX k wd N sc X) {ds : List D} (hg : glB sc y = true) (hm : GTup X.K X.mg y ds) (ha : EvB X wd ρ a ra) (hb : behindInMarks .In (.Name y py) = false := by rfl) : Ev X wd ρ (.Compare a [.In] [.Name y py] pos) (ra.bind fun x => inR x (.tuple ds)) := fun F ad σ H Q s q => by
  obtain ⟨v1, v2, _⟩ := c.gl hg
  obtain ⟨ta, u, h1, h2, hf, h3⟩ := hm
  refine be (pe_cmpR op_in_seq pe_b (pe_glob v1 h1 h2 v2) hb) ?_
  rw [wp_bind] at q
  refine ha F ad σ H _ s (wp_mono (fun d q v H1 g1 r1 => ?_) (fun _ _ z => z) q)
  obtain ⟨hh, q⟩ := wp_ite q
  rw [Bool.and_eq_true] at hh
  have rd : Rep X.K (Ban F ρ ad) H1 v d := by
    rcases r1 with h | ⟨_, _, _, _, rfl, _⟩
    · exact h
    · cases hh.1
  refine ⟨ta, ds.map dV, rfl, .inr (h3 H1), flat_rep rd hh.1, flats_rep (rep_dV hf (K := X.K) (B := Ban F ρ ad) (H := H1)) hf, ?_⟩
  rw [show (if false = true then !inV v (ds.map dV) else inV v (ds.map dV)) = inB d ds from in_rep rd hh.1 (rep_dV hf) hf]
  exact q _ _ g1 (.bl _)
theorem con_mk_tup {K : PySem.W.Frag} {mg : Str → Option Value} {h : Heap} (X : K.In h) (G : h.Ns mainGlobals mg) {ad : Addr} {o : Obj} {us : List Value} {ds : List D} {n : Nat} (a : PySem.W.nsIn K mainGlobals x = some (some (.ref ad))) (l : K.lookup ad = some o) (hc : o.cls = .type "tuple") (hd : o.data = .seq us.toArray n) (hz : us.length ≤ sizeLine) (hv : Vals (ds.map dV) us) (hf : ds.all flatD = true) : GTup K mg x ds :=
  ⟨ad, .ref ad, PySem.W.mg_of X G a, rfl, hf, fun H => .inr ⟨o, us.toArray, n, l, hc, hd, by simpa using hz, by simpa using hv⟩⟩
/-! ### d != {} -/
def neER (c : Ct) : R D := match c with
  | .k kvs => ret (.bool (!kvs.isEmpty))
  | _ => bad
theorem op_neE {X : Cx} (hu : X.A.units < cLine) : OpR X (compareOp .NotEq) (fun x y H Q => ∃ a b ks, x = .ref a ∧ y = .ref b ∧ H a = some (.dK ks) ∧ H b = some (.dK []) ∧ Q (.bl (!ks.isEmpty)) H) := by
  intro pins s σ H x y v u Q I rx ry h
  obtain ⟨a, b, ks, rfl, rfl, ea, eb, q⟩ := h
  obtain rfl : v = Value.ref a := rx
  obtain rfl : u = Value.ref b := ry
  obtain ⟨_, ya, va, ra, da⟩ := dk_of I.hok ea
  obtain ⟨_, yb, vb, rb, db⟩ := dk_of I.hok eb
  cases rb
  have hl : va.length = ks.length := ra.length.symm
  refine PySem.W.keq_ne (knd := mixKind X.prog X.w) (r := true) ya yb da db hu (fun z => ?_) ⟨.bl _, H, I, ?_, q⟩
  · have : va = [] := List.eq_nil_of_length_eq_zero z
    rw [this]
    exact .nil
  · show Value.bool _ = Value.bool _
    congr 1
    cases ks with
    | nil => cases va with
      | nil => rfl
      | cons => cases hl
    | cons k ks => cases va with
      | nil => cases hl
      | cons => simp
theorem ev_neE (cx : Cw CX k wd N sc X) (hv : visB sc x = true) (hN : N[i]? = some x) (hρ : ρ[i]? = some sl) (hc : sl.ct = some ct) (hb : behindInMarks .NotEq (.Dict [] [] py) = false := by exact nobehind _ (by decide) (by decide)) : Ev X wd ρ (.Compare (.Name x p) [.NotEq] [.Dict [] [] py] pos) (neER ct) := fun F ad σ H Q s q => by
  obtain ⟨v1, v2, v3⟩ := cx.vis hv
  refine be (pe_cmpR (op_neE (by have := cx.u64; omega)) (pe_var (i := i) (by rw [cx.hN]; exact hN) v1 v2 v3) pe_dnewK hb) ?_
  obtain ⟨o, eo, hct, _⟩ := ct_at s hρ hc
  refine ⟨_, eo, fun b hb => ?_⟩
  cases ct with
  | k kvs =>
    obtain ⟨vs, e, pr⟩ := hct
    have ne : o ≠ b := fun z => by rw [z, hb] at e; cases e
    refine ⟨o, b, vs, rfl, rfl, by rw [upd_ne ne]; exact e, upd_same, ?_⟩
    have e2 : vs.isEmpty = kvs.isEmpty := by cases pr <;> rfl
    rw [e2]
    exact q _ _ (Grow.same (same_upd hb)) (.bl _)
  | _ => exact q.elim
/-- x is None, x an object -/
theorem ev_isC (cx : Cw CX k wd N sc X) {jj : Nat} (hv : visB sc x = true) (hN : N[i]? = some x) (hρ : ρ[i]? = some sl) (hc : sl.ct = some ct) : Ev X wd ρ (.Compare (.Name x p) [.Is] [.Constant .none jj py] pos) (ret (.bool false)) := fun F ad σ H Q s q => by
  obtain ⟨v1, v2, v3⟩ := cx.vis hv
  refine be (pe_cmp (pc_isN (pe_var (i := i) (by rw [cx.hN]; exact hN) v1 v2 v3))) ?_
  obtain ⟨o, eo, hct, _⟩ := ct_at s hρ hc
  exact ⟨_, eo, q _ _ (Grow.refl _ _) (.bl _)⟩
end
end Pu
/-! Pev: tests; small helpers of the printer. -/
namespace Pu
open PySem PySem.Spec PyProof.Rows L2 R
theorem ht_le {ρ ρ' : List Sl} (h : Le ρ' ρ) : ∀ (i : Nat) (s : Sl), ρ'[i]? = some s → s.own = true → ρ[i]? = some s := fun i s e o => by
  rcases h.2 i s e with rfl | z | ⟨xs, rfl, _⟩
  · cases o
  · exact z
  · cases o
theorem own_nil {ρ : List Sl} : ∀ j ∈ ([] : List Nat), Own ρ j := by simp
theorem own_cons {ρ : List Sl} {i : Nat} {I : List Nat} {s : Sl} (e : ρ[i]? = some s) (h : s.own = true) (t : ∀ j ∈ I, Own ρ j) : ∀ j ∈ i :: I, Own ρ j := fun j hj => by
  rcases List.mem_cons.mp hj with rfl | hj
  · exact ⟨s, e, h⟩
  · exact t j hj
section
variable {CX : CXT} {k : Nat} {wd : Wd} {N : List Str} {sc : Scope} {X : Cx} {ρ : List Sl} {a b : Expr} {pos p px py : Pos} {ra rb : R D} {x y : Str} {i : Nat} {sl : Sl} {ct : Ct}
theorem evb_bor (c : Cw CX k wd N sc X) {xs : List D} (hv : visB sc x = true) (hN : N[i]? = some x) (hρ : ρ[i]? = some (.b (.l xs))) : EvB X wd ρ (.Name x p) (ret (.list xs)) := fun F ad σ H Q s q => by
  obtain ⟨v1, v2, v3⟩ := c.vis hv
  obtain ⟨e, h1, h2, h3, vs, h4, r⟩ := s.sl i _ hρ
  exact be (pe_var (i := i) (by rw [c.hN]; exact hN) v1 v2 v3) ⟨_, h1, q _ H (Grow.refl _ _) (.inr ⟨_, vs, xs, rfl, rfl, ⟨h4, h3⟩, r⟩)⟩
theorem evt_in (c : Cw CX k wd N sc X) (ha : EvB X wd ρ a ra) (hb : EvB X wd ρ b rb) (hm : behindInMarks .In b = false := by rfl) : EvT X wd ρ (.Compare a [.In] [b] pos) (ra.bind fun x => rb.bind fun y => (inR x y).bind boolR) :=
  evt_cmp (OpR.or op_in_seq (OpR.or (op_inD (by have := c.un; omega)) op_in_sign)) opS_in hm ha hb
theorem evt_notin (c : Cw CX k wd N sc X) (ha : EvB X wd ρ a ra) (hb : EvB X wd ρ b rb) (hm : behindInMarks .NotIn b = false := by rfl) : EvT X wd ρ (.Compare a [.NotIn] [b] pos) (ra.bind fun x => rb.bind fun y => (ninR x y).bind boolR) :=
  evt_cmp (OpR.or op_notIn_seq (OpR.or (op_notInD (by have := c.un; omega)) op_notIn_sign)) opS_nin hm ha hb
theorem evt_din (cx : Cw CX k wd N sc X) (hv : visB sc x = true) (hN : N[i]? = some x) (hρ : ρ[i]? = some sl) (hc : sl.ct = some ct) (ha : Ev X wd ρ a ra) : EvT X wd ρ (.Compare a [.In] [.Name x p] pos) (ra.bind fun y => (dinR ct y).bind boolR) := fun F ad σ H Q s q => by
  obtain ⟨v1, v2, v3⟩ := cx.vis hv
  refine bt (pt_cmp (pc_din cx.u1 pe_b (pe_var (i := i) (by rw [cx.hN]; exact hN) v1 v2 v3)) rfl) ?_
  rw [wp_bind] at q
  refine ha F ad σ H _ s (wp_mono (fun y q v H1 g1 r1 => ?_) (fun _ _ z => z) q)
  obtain ⟨o, eo, hct, _⟩ := ct_at (s.grow g1) hρ hc
  unfold dinR at q
  cases e : getC ct y with
  | none => rw [e] at q; exact q.elim
  | some z =>
    rw [e] at q
    obtain ⟨_, w, hw, ov⟩ := dget_of hct r1 e
    refine ⟨_, eo, o, w, rfl, hw, _, rfl, ?_⟩
    have e : w.isSome = z.isSome := by cases ov <;> rfl
    rw [e]
    exact q _ g1
theorem evt_dnin (cx : Cw CX k wd N sc X) (hv : visB sc x = true) (hN : N[i]? = some x) (hρ : ρ[i]? = some sl) (hc : sl.ct = some ct) (ha : Ev X wd ρ a ra) : EvT X wd ρ (.Compare a [.NotIn] [.Name x p] pos) (ra.bind fun y => (dninR ct y).bind boolR) := fun F ad σ H Q s q => by
  obtain ⟨v1, v2, v3⟩ := cx.vis hv
  refine bt (pt_cmp (pc_dnotin cx.u1 pe_b (pe_var (i := i) (by rw [cx.hN]; exact hN) v1 v2 v3)) rfl) ?_
  rw [wp_bind] at q
  refine ha F ad σ H _ s (wp_mono (fun y q v H1 g1 r1 => ?_) (fun _ _ z => z) q)
  obtain ⟨o, eo, hct, _⟩ := ct_at (s.grow g1) hρ hc
  unfold dninR at q
  cases e : getC ct y with
  | none => rw [e] at q; exact q.elim
  | some z =>
    rw [e] at q
    obtain ⟨_, w, hw, ov⟩ := dget_of hct r1 e
    refine ⟨_, eo, o, w, rfl, hw, _, rfl, ?_⟩
    have e : w.isSome = z.isSome := by cases ov <;> rfl
    rw [e]
    exact q _ g1
theorem evt_inT (c : Cw CX k wd N sc X) {ds : List D} (hg : glB sc y = true) (hm : GTup X.K X.mg y ds) (ha : EvB X wd ρ a ra) (hb : behindInMarks .In (.Name y py) = false := by rfl) : EvT X wd ρ (.Compare a [.In] [.Name y py] pos) (ra.bind fun x => (inR x (.tuple ds)).bind boolR) := fun F ad σ H Q s q => by
  obtain ⟨v1, v2, _⟩ := c.gl hg
  obtain ⟨ta, u, h1, h2, hf, h3⟩ := hm
  refine bt (pt_cmpR op_in_seq pe_b (pe_glob v1 h1 h2 v2) hb) ?_
  rw [wp_bind] at q
  refine ha F ad σ H _ s (wp_mono (fun d q v H1 g1 r1 => ?_) (fun _ _ z => z) q)
  rw [wp_bind] at q
  obtain ⟨hh, q⟩ := wp_ite q
  rw [Bool.and_eq_true] at hh
  have rd : Rep X.K (Ban F ρ ad) H1 v d := by
    rcases r1 with h | ⟨_, _, _, _, rfl, _⟩
    · exact h
    · cases hh.1
  refine ⟨ta, ds.map dV, rfl, .inr (h3 H1), flat_rep rd hh.1, flats_rep (rep_dV hf (K := X.K) (B := Ban F ρ ad) (H := H1)) hf, _, rfl, ?_⟩
  rw [show (if false = true then !inV v (ds.map dV) else inV v (ds.map dV)) = inB d ds from in_rep rd hh.1 (rep_dV hf) hf]
  exact q _ g1
theorem evt_neE (cx : Cw CX k wd N sc X) (hv : visB sc x = true) (hN : N[i]? = some x) (hρ : ρ[i]? = some sl) (hc : sl.ct = some ct) (hb : behindInMarks .NotEq (.Dict [] [] py) = false := by exact nobehind _ (by decide) (by decide)) : EvT X wd ρ (.Compare (.Name x p) [.NotEq] [.Dict [] [] py] pos) ((neER ct).bind boolR) := fun F ad σ H Q s q => by
  obtain ⟨v1, v2, v3⟩ := cx.vis hv
  refine bt (pt_cmpR (op_neE (by have := cx.u64; omega)) (pe_var (i := i) (by rw [cx.hN]; exact hN) v1 v2 v3) pe_dnewK hb) ?_
  obtain ⟨o, eo, hct, _⟩ := ct_at s hρ hc
  refine ⟨_, eo, fun b hb => ?_⟩
  cases ct with
  | k kvs =>
    obtain ⟨vs, e, pr⟩ := hct
    have ne : o ≠ b := fun z => by rw [z, hb] at e; cases e
    refine ⟨o, b, vs, rfl, rfl, by rw [upd_ne ne]; exact e, upd_same, _, rfl, ?_⟩
    have e2 : vs.isEmpty = kvs.isEmpty := by cases pr <;> rfl
    rw [e2]
    exact q _ (Grow.same (same_upd hb))
  | _ => exact q.elim
theorem evt_isC (cx : Cw CX k wd N sc X) {jj : Nat} (hv : visB sc x = true) (hN : N[i]? = some x) (hρ : ρ[i]? = some sl) (hc : sl.ct = some ct) : EvT X wd ρ (.Compare (.Name x p) [.Is] [.Constant .none jj py] pos) (ret false) := fun F ad σ H Q s q => by
  obtain ⟨v1, v2, v3⟩ := cx.vis hv
  refine bt (pt_cmp (pc_isN (pe_var (i := i) (by rw [cx.hN]; exact hN) v1 v2 v3))) ?_
  obtain ⟨o, eo, hct, _⟩ := ct_at s hρ hc
  exact ⟨_, eo, _, rfl, q _ (Grow.refl _ _)⟩
end
section
variable {CX : CXT} {k : Nat} {wd : Wd} {N : List Str} {sc : Scope} {X : Cx} {S S1 B T : Type} {eS : S → List Sl} {eS1 : S1 → List Sl} {eB : B → List Sl} {eT : T → List Sl} {ρ : List Sl} {rest : List Stmt} {pos p px py pz : Pos} {x y z : Str} {i j l : Nat} {kt : Nat}
/-- for x, y in .. -/
theorem run_for2 [Calm wd] (c : Cd CX k wd N sc X) {iter : Expr} {body : List Stmt} {r : R (List D)} {s0 : S1} {f : D → D → S1 → R (Out S1 S1 T)} {o : S1 → R (Out S B T)} (hx : lcB sc x = true) (hN : N[i]? = some x) (hy : lcB sc y = true) (hN2 : N[j]? = some y)
    (hi : EvI X wd ρ (.Tuple [.Name x px, .Name y py] kt p) iter r) (hl : Le (eS1 s0) ρ)
    (hb : ∀ s a b, Run X wd eS1 eS1 eT (((eS1 s).set i (.d a)).set j (.d b)) body (f a b s)) (hr : ∀ s, Run X wd eS eB eT (eS1 s) rest (o s))
    (hs : ∀ x, foldedSetIterable iter X.env x = pure x := by exact fun _ => rfl) : Run X wd eS eB eT ρ (.For (.Tuple [.Name x px, .Name y py] kt p) iter body [] pos :: rest) (r.bind fun ds => seqR (forR (fun d s => unp2 d fun a b => f a b s) ds s0) o) :=
  run_forG c (vs := [i, j]) (st := fun s d => stT 2 [i, j] (eS1 s) d) hi hl (pg_tup c.calm (pgn_cons c hx hN (pgn_cons c hy hN2 pgn_nil))) (fun s => gs_tup (is := [i, j])) (fun s d e => stT2n e) (fun s d ρ' e => by obtain ⟨a, b, rfl, rfl⟩ := stT2 e; exact hb s a b) hr hs
/-- for x, y, z in .. -/
theorem run_for3 [Calm wd] (c : Cd CX k wd N sc X) {iter : Expr} {body : List Stmt} {r : R (List D)} {s0 : S1} {f : D → D → D → S1 → R (Out S1 S1 T)} {o : S1 → R (Out S B T)} (hx : lcB sc x = true) (hN : N[i]? = some x) (hy : lcB sc y = true) (hN2 : N[j]? = some y) (hz : lcB sc z = true) (hN3 : N[l]? = some z)
    (hi : EvI X wd ρ (.Tuple [.Name x px, .Name y py, .Name z pz] kt p) iter r) (hl : Le (eS1 s0) ρ)
    (hb : ∀ s a b d, Run X wd eS1 eS1 eT ((((eS1 s).set i (.d a)).set j (.d b)).set l (.d d)) body (f a b d s)) (hr : ∀ s, Run X wd eS eB eT (eS1 s) rest (o s))
    (hs : ∀ x, foldedSetIterable iter X.env x = pure x := by exact fun _ => rfl) : Run X wd eS eB eT ρ (.For (.Tuple [.Name x px, .Name y py, .Name z pz] kt p) iter body [] pos :: rest) (r.bind fun ds => seqR (forR (fun d s => unp3 d fun a b e => f a b e s) ds s0) o) :=
  run_forG c (vs := [i, j, l]) (st := fun s d => stT 3 [i, j, l] (eS1 s) d) hi hl (pg_tup c.calm (pgn_cons c hx hN (pgn_cons c hy hN2 (pgn_cons c hz hN3 pgn_nil)))) (fun s => gs_tup (is := [i, j, l])) (fun s d e => stT3n e) (fun s d ρ' e => by obtain ⟨a, b, g, rfl, rfl⟩ := stT3 e; exact hb s a b g) hr hs
end
end Pu
/-! Pdc: new dicts as values: comprehensions whose keys are ints, texts or tuples of these. -/
namespace Pu
open PySem PySem.Spec PyProof.Rows L2 R
/-- φ in every block of a comprehension -/
abbrev InBlk (X : Cx) (scope : Scope) (φ : Cx → Prop) : Prop := ∀ (s0 : Shared) (H0 : Hp) (C : Addr) (cl : List (Str × Addr)) (fp : List Addr), φ (X.blk s0 H0 scope (compEnvC scope cl C X.env) fp)
section
variable {X : Cx} {pins : List (Addr × Obj)} {σ : L2.St} {H H' : Hp} {s : Shared}
/-- a store by a comprehension, whatever the keys are -/
theorem put_new {D : Addr} {y v : V} {u r : Value} {Q : Unit → Shared → Prop} {E : Value → Shared → Prop} (hu : X.A.units + 1 < cLine) (I : Inv X pins σ H s) (pt : DPut H D y v H') (ry : RelV y u) (rv : RelV v r)
    (q : ∀ z, Inv X pins σ H' z → Q () z) : wpAny (model X.prog X.w) X.A (dictSet D u r) Q E s := by
  rcases pt with ⟨kvs, k, eD, rfl, hz, rfl⟩ | ⟨kvs, k, b, eD, rfl, eb, hz, rfl⟩
  · have sz := length_putK kvs k v
    obtain ⟨z, hd, ws, rl, dd⟩ := dk_of I.hok eD
    refine wpAny_dictSet_pairs (hsz := by have := rl.length; omega) (kV_is ry) dd fun h2 d2 sb => q _ ?_
    obtain ⟨x, _, _, ex, _⟩ := id d2
    exact d_write I (by rw [eD]; trivial) sb ⟨x, ex⟩ (dk_new (by omega) hd (rl.put k rv) d2)
  · have sz := length_putK kvs k v
    have eu : u = Value.ref b := ry
    subst eu
    obtain ⟨z, hd, ws, rl, dd⟩ := dt_of I.hok eD
    refine wpAny_dictSet_heap (hsz := by have := Paired.length rl; omega) (show X.A.units < cLine from Nat.lt_of_succ_lt hu) (key_of I.hok eb) dd fun h2 d2 sb => q _ ?_
    obtain ⟨x, es, ep, ex, x2, x3, x4, _, x5⟩ := d2
    refine d_write I (by rw [eD]; trivial) sb ⟨x, ex⟩ ⟨by omega, hd, _, (rl.put k eb rv).keeps fun c ys ec => ?_, x, es, ep, ex, x2, x3, x4, x5⟩
    rw [upd_ne (ne_of ec eD fun z => nomatch z)]
    exact ec
/-- a new dict, to hold keys of the kind that u tells -/
theorem dict_laid {u : HO} (hu : u = .dK [] ∨ u = .dT []) (I : Inv X pins σ H s) : H s.heap.objs.size = none ∧ Inv X pins σ (upd H s.heap.objs.size u) { s with heap := s.heap.push { cls := .type "dict", data := .dict #[] } } := by
  refine ⟨I.hok.fresh (Nat.le_refl _), ?_⟩
  rcases hu with rfl | rfl
  · exact I.laid (t' := s.toks) (fun _ _ e => Heap.get?_push_of_some _ e) (Nat.le_refl _) (dk_empty s.heap I.big)
  · exact I.laid (t' := s.toks) (fun _ _ e => Heap.get?_push_of_some _ e) (Nat.le_refl _) (dt_empty s.heap I.big)
/-- {k: v for tg in iter if ..}: Dn the new dict, u what it is at first -/
def tDn (u : HO) (wi : TI) (g : TG) (tt : TT) (tk tv : TE) (own : List Nat) : TE := fun σ H Q => wi σ H fun J H1 => ∀ Dn, H1 Dn = none → ∃ In : Nat → Nat → Hp → Prop, (∃ m, In 0 m (upd H1 Dn u)) ∧ ∀ i m H2, In i m H2 →
  (J.stop i H2 ∧ Q (.ref Dn) H2) ∨ (J.go i H2 ∧ ∃ Nx : Hp → Prop, (∀ H3, Nx H3 → ∃ m', m' < m ∧ In (i + 1) m' H3) ∧ ∀ x H3, J.yld i H2 x H3 → g x (wipe σ own) H3 fun σ4 H4 => wipe σ4 own = wipe σ own ∧ tt σ4 H4 fun b H5 =>
    if b = true then tk σ4 H5 fun y H6 => tv σ4 H6 fun z H7 => ∃ H8, DPut H7 Dn y z H8 ∧ Nx H8 else Nx H5)
theorem pe_dn {u : HO} {kx vx tg iter : Expr} {ifs : List Expr} {scope : Scope} {own : List (Str × Nat)} {pos : Pos} {wi : TI} {g : TG} {tt : TT} {tk tv : TE} (hu0 : u = .dK [] ∨ u = .dT []) (hu : X.A.units + 1 < cLine) (hcalm : X.calm = true) (nd : X.N.Nodup) (hi : PI X tg iter wi) (bo : BlkOk X.N X.env.scope scope own)
    (hg : InBlk X scope fun Y => PG Y tg g) (ht : InBlk X scope fun Y => PTs Y ifs tt) (hk : InBlk X scope fun Y => PE Y kx tk) (hv : InBlk X scope fun Y => PE Y vx tv) (hfs : ∀ x, foldedSetIterable iter X.env x = pure x) :
    PE X (.DictComp kx vx [⟨tg, iter, ifs, 0⟩] scope pos) (tDn u wi g tt tk tv (own.map (·.2))) := by
  refine ⟨fun pins s σ H Q I h => ?_⟩
  rw [arm_eval_DictComp]
  have cells : ∀ n ∈ scope.names, n.2 = .free → ∃ c, X.env.cells.lookup n.1 = some c := fun n hn e => (bo.free n hn e).elim (fun z => I.ok.has _ (.inl z)) fun z => I.ok.has _ (.inr z)
  refine wpAny_comprehension_free rfl hfs (closure_ok cells) bo.kind (fun n hn e => by rw [bo.uniq n hn, e]) (thn (hi.run pins s σ H _ I h) fun _ s1 w1 => thn w1 fun _ s2 w2 => ?_)
  obtain ⟨it, fp, tn, J, H2, rfl, I2, T, t2, f2, q⟩ := w2
  refine wpAny_newObj_type (newEnv_comp ?_)
  obtain ⟨fresh, I3⟩ := dict_laid hu0 I2
  obtain ⟨In, ⟨m0, in0⟩, turn⟩ := q s2.heap.objs.size fresh
  generalize eD : s2.heap.objs.size = Dn at fresh I3 in0 turn ⊢
  generalize e3 : ({ s2 with heap := s2.heap.push { cls := .type "dict", data := .dict #[] } } : Shared) = s3 at I3
  have h3 : s3.heap = s2.heap.push { cls := .type "dict", data := .dict #[] } := by rw [← e3]
  have f3 : ∀ b ∈ fp, FpOk X pins (upd H2 Dn u) b ∧ b < s3.heap.objs.size := fun b hb => by
    obtain ⟨_, eb, _⟩ := T.obj _ _ t2 b hb
    have lt := Heap.lt_size eb
    refine ⟨⟨?_, (f2 b hb).2⟩, by rw [h3, Heap.size_push]; exact Nat.lt_succ_of_lt lt⟩
    rw [upd_ne (by rw [← eD]; exact Nat.ne_of_lt lt)]
    exact (f2 b hb).1
  have t3 : tn 0 s3.heap := T.keep _ _ _ t2 fun _ _ _ eb => by rw [h3]; exact Heap.get?_push_of_some _ eb
  have I4 := block_start I3 bo nd f3
  have p1 := hg s3 (upd H2 Dn u) s3.heap.objs.size (cellsFrom (s3.heap.objs.size + 1) scope.names (cloFrom X.env.cells scope.names [])) fp
  have p2 := ht s3 (upd H2 Dn u) s3.heap.objs.size (cellsFrom (s3.heap.objs.size + 1) scope.names (cloFrom X.env.cells scope.names [])) fp
  have p3 := hk s3 (upd H2 Dn u) s3.heap.objs.size (cellsFrom (s3.heap.objs.size + 1) scope.names (cloFrom X.env.cells scope.names [])) fp
  have p4 := hv s3 (upd H2 Dn u) s3.heap.objs.size (cellsFrom (s3.heap.objs.size + 1) scope.names (cloFrom X.env.cells scope.names [])) fp
  have t4 : tn 0 (pushCells (s3.heap.push { cls := .type "dict", data := .dict #[] }) scope.names) := T.keep _ _ _ t3 fun _ _ _ eb => pushCells_keeps _ _ _ _ (Heap.get?_push_of_some _ eb)
  show codeAny _ _ (.compStart _ 0 (.ref it) (.ref Dn) (compEnvC scope (cellsFrom (s3.heap.objs.size + 1) scope.names (cloFrom X.env.cells scope.names [])) s3.heap.objs.size X.env)) (compPost (model X.prog X.w) X.A X.xe none (EP X pins σ Q) (Value.ref Dn) s3.heap.objs.size) { s3 with heap := pushCells (s3.heap.push { cls := .type "dict", data := .dict #[] }) scope.names }
  generalize ec : compEnvC scope (cellsFrom (s3.heap.objs.size + 1) scope.names (cloFrom X.env.cells scope.names [])) s3.heap.objs.size X.env = env at I4 p1 p2 p3 p4 ⊢
  have eL : env.locals = s3.heap.objs.size := by rw [← ec]; rfl
  generalize eH : upd H2 Dn u = H3 at I3 I4 p1 p2 p3 p4 in0 f3
  generalize e5 : ({ s3 with heap := pushCells (s3.heap.push { cls := .type "dict", data := .dict #[] }) scope.names } : Shared) = s4 at I4 ⊢
  have t4 : tn 0 s4.heap := by rw [← e5]; exact t4
  have foot : ∀ {τ : L2.St} {K : Hp} {z : Shared}, Inv (X.blk s3 H3 scope env fp) [] τ K z → (∀ b ∈ fp, K b = none) → ∀ b ∈ fp, FpOk (X.blk s3 H3 scope env fp) [] K b := fun {τ K z} J n b hb =>
    ⟨n b hb, (J.ok.exf b hb).1, J.ok.exfs b hb, .inl hb, (J.ok.exf b hb).2, fun p hp => absurd (show p ∈ ([] : List (Addr × Obj)) ++ [] from hp) (by simp)⟩
  refine codeAny_compStart_dict ?G (T.self X.A 0 _ _ _ t4 ?G)
  refine compLoop_anyD (fun n z => ∃ i K, Inv (X.blk s3 H3 scope env fp) [] (wipe σ (own.map (·.2))) K z ∧ tn i z.heap ∧ (∀ b ∈ fp, K b = none) ∧ In i n K) ?_ m0 ⟨0, H3, I4, t4, fun b hb => (f3 b hb).1.1, in0⟩
  rintro n s5 ⟨i, H5, I5, t5, n5, in5⟩
  rcases turn i n H5 in5 with ⟨stop, fin⟩ | ⟨go, Nx, hNx, step⟩
  · refine thnF (T.done (X.blk s3 H3 scope env fp) rfl rfl rfl hcalm i [] s5 _ H5 (fun _ _ => False) I5 (foot I5 n5) t5 stop) fun r s6 ⟨er, I6⟩ => ?_
    subst er
    have out : Inv X pins σ H5 s6 := I3.call' (ch := fp) I6.os I6.base I6.hok I6.bare fun b hb => ⟨(f3 b hb).1.2.2.2.1, (f3 b hb).1.2.1, (f3 b hb).1.2.2.2.2.1, (f3 b hb).1.2.2.2.2.2⟩
    have free : H5 s3.heap.objs.size = none := by
      rw [← eL]
      exact I6.free
    obtain ⟨m, hm, _⟩ := I6.loc
    have hm : s6.heap.Ns env.locals m := hm
    rw [eL] at hm
    obtain ⟨a0, a1, a2, a3, a4, a5⟩ := I3.fpOk (H' := H5) (Nat.le_refl _) free
    exact ⟨m, hm, fun h7 sb => ⟨.ref Dn, H5, out.turned (t' := s6.toks) (fun b o hb e => (sb.2 b hb).trans e) a0 a1 a3 a4 a5, rfl, fin⟩⟩
  · refine thnF (T.item (X.blk s3 H3 scope env fp) rfl rfl rfl hcalm i [] s5 _ H5 (fun _ _ => False) I5 (foot I5 n5) t5 go) fun r s6 ⟨uv, er, w6⟩ => ?_
    subst er
    refine thnF w6 fun _ s7 ⟨x, H7, I7, r7, y7, t7, n7⟩ => thnF (p1.run _ s7 _ H7 x uv _ (I7.pinned (foot I7 n7) (T.obj _ _ t7)) r7 (step x H7 y7)) fun _ s8 ⟨σ8, H8, I8, hw8, w8⟩ => thnF (p2.run _ s8 σ8 H8 _ I8 w8) fun b s9 ⟨H9, I9, w9⟩ => ?_
    have len : (wipe σ (own.map (·.2))).length = σ8.length := by rw [← hw8, wipe_length]
    have next : ∀ {z : Shared} {K : Hp}, Inv (X.blk s3 H3 scope env fp) ([] ++ pinsAt fp s7.heap) σ8 K z → Nx K → ∃ m, m < n ∧ ∃ i K, Inv (X.blk s3 H3 scope env fp) [] (wipe σ (own.map (·.2))) K z ∧ tn i z.heap ∧ (∀ b ∈ fp, K b = none) ∧ In i m K := fun {z K} J nx => by
      obtain ⟨m', lt, inn⟩ := hNx K nx
      have stands : ∀ b ∈ fp, ∀ o, s7.heap.get? b = some o → z.heap.get? b = some o ∧ K b = none := fun b hb o e => by
        have := J.pin (b, o) (List.mem_append_right _ (List.mem_append_right _ (mem_pinsAt hb e)))
        exact ⟨this.1, this.2.1⟩
      refine ⟨m', lt, i + 1, K, (J.unpinned (pins := [])).weak len (fun j v e => (wipe_some (by rw [hw8]; exact e)).1), T.keep _ _ _ t7 fun b hb o e => (stands b hb o e).1, fun b hb => ?_, inn⟩
      obtain ⟨o, e, _⟩ := T.obj _ _ t7 b hb
      exact (stands b hb o e).2
    cases b with
    | false => exact next I9 w9
    | true => exact thnF (p3.run _ s9 σ8 H9 _ I9 w9) fun _ s10 ⟨ky, H10, I10, r10, w10⟩ => thnF (p4.run _ s10 σ8 H10 _ I10 w10) fun _ s11 ⟨vy, H11, I11, r11, H12, pt, nx⟩ => put_new (X := X.blk s3 H3 scope env fp) hu I11 pt r10 r11 fun _ I12 => next I12 nx
end
/-! ### over the layer -/
/-- a dict comprehension: tests, keys, values -/
def dcompR {A : Type} (put : A → D → D → R A) (cf : D → R Bool) (kf vf : D → R D) : List D → A → R A
  | [], acc => R.ret acc
  | x :: xs, acc => (nx (cf x)).bind fun b => if b = true then ((nx (kf x)).bind fun y => (nx (vf x)).bind fun z => (nx (put acc y z)).bind fun acc => dcompR put cf kf vf xs acc) else dcompR put cf kf vf xs acc
/-- how a store goes, whatever the keys are -/
def PutOk {A : Type} (mk : A → Ct) (put : A → D → D → R A) : Prop := ∀ (K : PySem.W.Frag) (B : Addr → Prop) (H : Hp) (a : Addr) (acc : A) (y z : D) (w v : V) (Q : A → Prop) (E : Nat → D → Prop),
  HasCt K B H a (mk acc) → B a → Rep K B H w y → Rep K B H v z → (put acc y z).wp Q E → ∃ acc' o, Q acc' ∧ DPut H a w v (upd H a o) ∧ HasCt K B (upd H a o) a (mk acc')
theorem stay_at {B : Addr → Prop} {H : Hp} {a : Addr} {o : HO} (hb : B a) : Stay B H (upd H a o) := fun b u eb nb => by
  rw [upd_ne fun z => nb (by rw [z]; exact hb)]
  exact eb
theorem putOk_k : PutOk .k dputK := by
  intro K B H a acc y z w v Q E hc hb ry rz q
  obtain ⟨vs, e, pr⟩ := hc
  unfold dputK at q
  cases ek : keyOf y with
  | none => rw [ek] at q; exact q.elim
  | some k =>
    rw [ek] at q
    obtain ⟨hz, q⟩ := wp_ite q
    rw [key_rep ry ek]
    exact ⟨_, _, q, DPut.k e (by rw [paired_length pr]; exact hz), _, upd_same, paired_put (paired_mono (fun _ _ z => ⟨z.1, z.2.stay (stay_at hb)⟩) pr) (rz.stay (stay_at hb))⟩
theorem putOk_t : PutOk .t dputT := by
  intro K B H a acc y z w v Q E hc hb ry rz q
  obtain ⟨vs, e, pr⟩ := hc
  unfold dputT at q
  cases ek : keysOf y with
  | none => rw [ek] at q; exact q.elim
  | some k =>
    rw [ek] at q
    obtain ⟨hz, q⟩ := wp_ite q
    cases y with
    | tuple ds =>
      obtain ⟨b, ws, rfl, h1, rr⟩ := ry.tuple
      have ew := keys_reps rr ek
      subst ew
      exact ⟨_, _, q, DPut.t e h1.1 (by rw [paired_length pr]; exact hz), _, upd_same, paired_put (paired_mono (fun _ _ z => ⟨z.1, z.2.stay (stay_at hb)⟩) pr) (rz.stay (stay_at hb))⟩
    | _ => cases ek
/-- e is a new dict, nobody else has it -/
def EvC (X : Cx) (wd : Wd) (ρ : List Sl) (e : Expr) {A : Type} (mk : A → Ct) (r : R A) : Prop := ∀ (F : Addr → Prop) (ad : Nat → Addr) (σ : L2.St) (H : Hp) (Q : VK), StOk X.K wd.dr F ρ σ H ad →
  r.wp (fun c => ∀ a H', Grow wd.dr H H' → H a = none → HasCt X.K (fun b => Ban F ρ ad b ∨ b = a) H' a (mk c) → Q (.ref a) H') (XP X wd F ρ ad H) → BE X e σ H Q
/-- a new dict has no entries -/
def NewU {A : Type} (mk : A → Ct) (u : HO) (acc : A) : Prop := (u = .dK [] ∨ u = .dT []) ∧ ∀ (K : PySem.W.Frag) (B : Addr → Prop) (H : Hp) (a : Addr), H a = some u → HasCt K B H a (mk acc)
theorem newU_k : NewU .k (.dK []) [] := ⟨.inl rfl, fun _ _ _ _ e => ⟨[], e, .nil⟩⟩
theorem newU_t : NewU .t (.dT []) [] := ⟨.inr rfl, fun _ _ _ _ e => ⟨[], e, .nil⟩⟩
theorem hasCt_obj {K : PySem.W.Frag} {B : Addr → Prop} {H : Hp} {a : Addr} {c : Ct} (h : HasCt K B H a c) : ∃ o, H a = some o ∧ ∀ xs, o ≠ HO.tup xs := by
  cases c with
  | l xs => obtain ⟨vs, e, _⟩ := h; exact ⟨_, e, fun _ z => nomatch z⟩
  | k kvs => obtain ⟨vs, e, _⟩ := h; exact ⟨_, e, fun _ z => nomatch z⟩
  | t kvs => obtain ⟨vs, e, _⟩ := h; exact ⟨_, e, fun _ z => nomatch z⟩
theorem hasCt_go {K : PySem.W.Frag} {B B' : Addr → Prop} {H H' : Hp} {a : Addr} {c : Ct} (h : HasCt K B H a c) (st : Stay B H H') (hb : ∀ b, B' b → B b) (ho : ∀ o, H a = some o → H' a = some o) : HasCt K B' H' a c :=
  h.mono (fun _ _ r => (r.stay st).weak hb) (fun _ _ r => (r.stay st).weak hb) ho
section
variable {CX : CXT} {k : Nat} {wd : Wd} {N : List Str} {sc : Scope} {X : Cx} {ρ : List Sl} {kx vx tg iter : Expr} {ifs : List Expr} {A : Type} {mk : A → Ct} {put : A → D → D → R A} {u : HO} {acc0 : A} {pos : Pos}
theorem dn_read {scope : Scope} {g : TG} {vs : List Nat} {st : D → Option (List Sl)} {cf : D → R Bool} {kf vf : D → R D} {r : R (List D)} (hu : NewU mk u acc0) (hp : PutOk mk put) (hi : EvJ X wd ρ tg iter r) (hgs : GS X.K wd.dr g vs (wipeS ρ vs) st) (hno : ∀ i ∈ vs, ¬ Own ρ i) (hek : LcEl X wd scope kx ifs st cf kf) (hev : LcEl X wd scope vx ifs st cf vf)
    (F : Addr → Prop) (ad : Nat → Addr) (σ : L2.St) (H : Hp) (Q : VK) (s : StOk X.K wd.dr F ρ σ H ad)
    (q : (r.bind fun ds => dcompR put cf kf vf ds acc0).wp (fun c => ∀ a H', Grow wd.dr H H' → H a = none → HasCt X.K (fun b => Ban F ρ ad b ∨ b = a) H' a (mk c) → Q (.ref a) H') (XP X wd F ρ ad H)) :
    tDn u (BI X tg iter) g (bT X scope ifs) (bE X scope kx) (bE X scope vx) vs σ H Q := by
  rw [wp_bind] at q
  refine hi F ad σ H _ s (wp_mono (fun ds q J H1 g1 hJ => ?_) (fun _ _ z => z) q)
  intro Dn hDn
  have hDn0 := free_grow s g1 hDn
  have s1 := s.grow g1
  generalize hF' : (fun b => F b ∨ b = Dn) = F'
  have FF : ∀ b, Ban F ρ ad b → Ban F' ρ ad b := by
    rintro b (z | z)
    · subst hF'; exact .inl (.inl z)
    · exact .inr z
  have FD : Ban F' ρ ad Dn := by subst hF'; exact .inl (.inr rfl)
  have FN : ∀ b, Ban F' ρ ad b → Ban F ρ ad b ∨ H1 b = none := by
    subst hF'
    rintro b ((b | rfl) | z)
    · exact .inl (.inl b)
    · exact .inr hDn
    · exact .inl (.inr z)
  have sF : ∀ {H' : Hp} {acc : A}, Grow wd.dr H1 H' → HasCt X.K (Ban F' ρ ad) H' Dn (mk acc) → StOk X.K wd.dr F' ρ σ H' ad := fun g e => by
    obtain ⟨o, eo, nt⟩ := hasCt_obj e
    subst hF'
    exact s1.newF hDn g eo nt
  obtain ⟨Vd, v0, vS, vG, vY, vE⟩ := hJ (Ban F' ρ ad) FN FF
  have gD : ∀ {o}, Grow wd.dr H1 (upd H1 Dn o) := fun {o} => Grow.same (same_upd hDn)
  have dne : ¬ Has wd.dr Dn := fun z => by
    obtain ⟨o, e, _⟩ := s1.banned (s1.drF z)
    rw [hDn] at e; cases e
  generalize hIn : (fun (i : Nat) (H' : Hp) => Grow wd.dr H1 H' ∧ Vd H' ∧ ∃ acc, HasCt X.K (Ban F' ρ ad) H' Dn (mk acc) ∧
      (dcompR put cf kf vf (ds.drop i) acc).wp (fun c => ∀ a H', Grow wd.dr H H' → H a = none → HasCt X.K (fun b => Ban F ρ ad b ∨ b = a) H' a (mk c) → Q (.ref a) H') (XP X wd F ρ ad H)) = In
  refine ⟨fun i m H' => m = ds.length - i ∧ i ≤ ds.length ∧ In i H', ⟨ds.length, rfl, Nat.zero_le _, by subst hIn; exact ⟨gD, vS _ _ v0 gD, acc0, hu.2 _ _ _ _ upd_same, q⟩⟩, ?_⟩
  rintro i m H' ⟨rfl, hi', hI⟩
  have hI' := hI
  rw [← hIn] at hI'
  obtain ⟨g2, vd, acc, hD, q⟩ := hI'
  by_cases hlt : i < ds.length
  · refine .inr ⟨vG _ _ vd hlt, In (i + 1), fun H'' z => ⟨ds.length - (i + 1), by omega, rfl, hlt, z⟩, ?_⟩
    intro x H'' y
    obtain ⟨sm, rx⟩ := vY _ _ _ _ ds[i] vd y (List.getElem?_eq_getElem hlt)
    have g3 : Grow wd.dr H1 H'' := g2.trans (Grow.same sm)
    have hD3 : HasCt X.K (Ban F' ρ ad) H'' Dn (mk acc) := hasCt_go hD (same_stay sm) (fun _ z => z) fun o e => sm _ _ e
    have s3r : StOk X.K wd.dr F' ρ σ H'' ad := sF g3 hD3
    have s3 : StOk X.K wd.dr F' (wipeS ρ vs) (wipe σ vs) H'' ad := s3r.wiped
    have wb : ∀ b, Ban F' (wipeS ρ vs) ad b → Ban F' ρ ad b := by
      rintro b (b | ⟨i, o, e⟩)
      · exact .inl b
      · exact .inr ⟨i, wipeS_own o, e⟩
    rw [List.drop_eq_getElem_cons hlt] at q
    have vd3 := vS _ _ vd (Grow.same sm)
    unfold dcompR at q
    rw [wp_bind] at q
    cases est : st ds[i] with
    | none => rw [hek.no _ est] at q; exact q.elim
    | some ρ' =>
      refine hgs F' ad _ H'' x ds[i] ρ' _ s3 (rx.weak wb) est fun σ' s' ho2 ho w => ⟨by rw [w, wipe_idem vs vs fun _ h => h], ?_⟩
      have hB : ∀ b, Ban F' ρ ad b → Ban F' ρ' ad b := by
        rintro b (b | ⟨j, o, e⟩)
        · exact .inl b
        · have hj : j ∉ vs := fun z => hno j z o
          exact .inr ⟨j, ho2 j (own_wipeS hj o) hj, e⟩
      have key : ∀ (b : Bool) (H3 : Hp), Grow wd.dr H'' H3 → (if b = true then ((nx (kf ds[i])).bind fun y => (nx (vf ds[i])).bind fun z => (nx (put acc y z)).bind fun acc => dcompR put cf kf vf (ds.drop (i + 1)) acc) else dcompR put cf kf vf (ds.drop (i + 1)) acc).wp (fun c => ∀ a H', Grow wd.dr H H' → H a = none → HasCt X.K (fun b => Ban F ρ ad b ∨ b = a) H' a (mk c) → Q (.ref a) H') (XP X wd F ρ ad H) →
          (if b = true then bE X scope kx σ' H3 fun y H4 => bE X scope vx σ' H4 fun z H5 => ∃ H6, DPut H5 Dn y z H6 ∧ In (i + 1) H6 else In (i + 1) H3) := by
        intro b H3 g4 q
        have hD4 : HasCt X.K (Ban F' ρ ad) H3 Dn (mk acc) := hasCt_go hD3 (s3r.stays g4) (fun _ z => z) fun o e => g4.keep _ _ e dne
        cases b with
        | false => subst hIn; exact iteF ⟨g3.trans g4, vS _ _ vd3 g4, acc, hD4, q⟩
        | true =>
          refine iteT fun s0 H0 C cl fp => ?_
          have q : ((nx (kf ds[i])).bind fun y => (nx (vf ds[i])).bind fun z => (nx (put acc y z)).bind fun acc => dcompR put cf kf vf (ds.drop (i + 1)) acc).wp _ _ := q
          rw [wp_bind] at q
          refine hek.el ds[i] ρ' est s0 H0 C cl fp F' ad σ' H3 _ (s'.grow g4) (xp_false (wp_nx (E := fun _ _ => False) ?_))
          refine wp_nx' (E := XP X wd F ρ ad H) (wp_mono (fun y q w H4 g5 rw_ => ?_) (fun _ _ z => z) q)
          intro s0 H0 C cl fp
          rw [wp_bind] at q
          have s5 := (s'.grow g4).grow g5
          refine hev.el ds[i] ρ' est s0 H0 C cl fp F' ad σ' H4 _ s5 (xp_false (wp_nx (E := fun _ _ => False) ?_))
          refine wp_nx' (E := XP X wd F ρ ad H) (wp_mono (fun z q v H5 g6 rv => ?_) (fun _ _ z => z) q)
          have hD5 : HasCt X.K (Ban F' ρ ad) H4 Dn (mk acc) := hasCt_go hD4 ((s3r.grow g4).stays g5) (fun _ z => z) fun o e => g5.keep _ _ e dne
          have hD6 : HasCt X.K (Ban F' ρ ad) H5 Dn (mk acc) := hasCt_go hD5 (((s3r.grow g4).grow g5).stays g6) (fun _ z => z) fun o e => g6.keep _ _ e dne
          have rw6 : Rep X.K (Ban F' ρ ad) H5 w y := (rw_.stay (s5.stays g6)).weak hB
          rw [wp_bind] at q
          obtain ⟨acc', o, q, pt, hD7⟩ := hp X.K (Ban F' ρ ad) H5 Dn acc y z w v _ (fun _ _ => False) hD6 FD rw6 (rv.weak hB) (wp_nx q)
          have g7 : Grow wd.dr H1 (upd H5 Dn o) := (g3.trans (g4.trans (g5.trans g6))).updNew hDn
          refine ⟨_, pt, ?_⟩
          subst hIn
          exact ⟨g7, vS _ _ v0 g7, acc', hD7, q⟩
      cases ifs with
      | nil =>
        have et := hek.ts ds[i] ρ' est
        simp only at et
        rw [et] at q
        exact key true H'' (Grow.refl _ _) q
      | cons t ts =>
        intro s0 H0 C cl fp
        refine hek.ts ds[i] ρ' est s0 H0 C cl fp F' ad σ' H'' _ s' (xp_false (wp_nx (E := fun _ _ => False) (wp_nx' (E := XP X wd F ρ ad H) (wp_mono (fun b q H3 g4 => key b H3 g4 q) (fun _ _ z => z) q))))
  · have e : i = ds.length := by omega
    subst e
    rw [List.drop_length] at q
    exact .inl ⟨vE _ vd, q _ _ (g1.trans g2) hDn0 (hD.weak fun b z => by
      rcases z with z | rfl
      · exact FF _ z
      · exact FD)⟩
theorem evc_dcomp [Calm wd] (c : Cw CX k wd N sc X) {scope : Scope} {own : List (Str × Nat)} {g : TG} {st : D → Option (List Sl)} {cf : D → R Bool} {kf vf : D → R D} {r : R (List D)} (hu : NewU mk u acc0) (hp : PutOk mk put) (hok : blkC N sc scope own = true) (hg : BlkG X scope tg g) (hgs : GS X.K wd.dr g (own.map (·.2)) (wipeS ρ (own.map (·.2))) st) (hno : ∀ i ∈ own.map (·.2), ¬ Own ρ i)
    (hi : EvJ X wd ρ tg iter r) (hl : ifs.length ≤ 1) (hek : LcEl X wd scope kx ifs st cf kf) (hev : LcEl X wd scope vx ifs st cf vf) (hs : ∀ x, foldedSetIterable iter X.env x = pure x) : EvC X wd ρ (.DictComp kx vx [⟨tg, iter, ifs, 0⟩] scope pos) mk (r.bind fun ds => dcompR put cf kf vf ds acc0) := fun F ad σ H Q s q =>
  be (pe_dn (own := own) hu.1 c.u1 c.calm (by rw [c.hN]; exact c.nd) pi_b (by rw [c.hN, c.hs]; exact blkOk_by hok) hg (bT_pts hl) bE_pe bE_pe hs) (dn_read hu hp hi hgs hno hek hev F ad σ H Q s q)
variable {x y z : Str} {i j l : Nat} {px py pz pt p : Pos} {sl sl2 sl3 : Sl}
/-- {k: v for x, y, z in iter}, keys tuples -/
theorem evc_dcT3 [Calm wd] (c : Cw CX k wd N sc X) {scope : Scope} {kf vf : D → D → D → R D} {r : R (List D)} {kt : Nat} (hu : NewU mk u acc0) (hp : PutOk mk put) (hok : blkC N sc scope [(x, i), (y, j), (z, l)] = true) (hN : N[i]? = some x) (hx : tgB scope sc x = true) (hN2 : N[j]? = some y) (hy : tgB scope sc y = true) (hN3 : N[l]? = some z) (hz : tgB scope sc z = true) (hno : ρ[i]? = some sl) (hsl : sl.own = false) (hno2 : ρ[j]? = some sl2) (hsl2 : sl2.own = false) (hno3 : ρ[l]? = some sl3) (hsl3 : sl3.own = false)
    (hi : EvJ X wd ρ (.Tuple [.Name x px, .Name y py, .Name z pz] kt pt) iter r) (hek : ∀ a b d s0 H0 C cl fp, Ev (X.blk s0 H0 scope (compEnvC scope cl C X.env) fp) wd.calm ((((wipeS ρ [i, j, l]).set i (.d a)).set j (.d b)).set l (.d d)) kx (kf a b d)) (hev : ∀ a b d s0 H0 C cl fp, Ev (X.blk s0 H0 scope (compEnvC scope cl C X.env) fp) wd.calm ((((wipeS ρ [i, j, l]).set i (.d a)).set j (.d b)).set l (.d d)) vx (vf a b d)) (hs : ∀ x, foldedSetIterable iter X.env x = pure x := by exact fun _ => rfl) :
    EvC X wd ρ (.DictComp kx vx [⟨.Tuple [.Name x px, .Name y py, .Name z pz] kt pt, iter, [], 0⟩] scope pos) mk (r.bind fun ds => dcompR put isT3 (fun d => unp3 d kf) (fun d => unp3 d vf) ds acc0) :=
  evc_dcomp c (own := [(x, i), (y, j), (z, l)]) hu hp hok (blkg_tup3 c (blkg_name c hN hx) (blkg_name c hN2 hy) (blkg_name c hN3 hz)) (gs_tup (ρ := wipeS ρ [i, j, l]) (is := [i, j, l])) (fun u hu => by
    simp only [List.map_cons, List.map_nil, List.mem_cons, List.not_mem_nil, or_false] at hu
    rcases hu with rfl | rfl | rfl
    · exact not_own hno hsl
    · exact not_own hno2 hsl2
    · exact not_own hno3 hsl3) hi (Nat.zero_le _) ⟨fun d e => isT3_no e, fun d ρ' e => by obtain ⟨a, b, d, rfl, rfl⟩ := stT3 e; exact hek a b d, fun d ρ' e => isT3_of e⟩
    ⟨fun d e => isT3_no e, fun d ρ' e => by obtain ⟨a, b, d, rfl, rfl⟩ := stT3 e; exact hev a b d, fun d ρ' e => isT3_of e⟩ hs
variable {S B : Type} {eS : S → List Sl} {eB : B → List Sl} {e : Expr} {rc : R A}
/-- return a new dict -/
theorem run_retN' (c : Cd CX k wd N sc X) (ho : wd.own = true) (h : EvC X wd ρ e mk rc) : Run X wd eS eB (fun _ : Unit => []) ρ [.Return (some e) pos] (rc.bind fun a => R.ret (.rt (encC (mk a)) ()) : R (Out S B Unit)) := fun F ad σ H Dn st q => by
  refine bss (pss_one (ps_ret pe_b)) ?_
  rw [wp_bind] at q
  refine h F ad σ H _ st (wp_mono (fun c' q a H' g ha hc => ?_) (fun _ _ z => z.xp st) q)
  have nb : ¬ Ban F ρ ad a := fun z => by
    obtain ⟨o, eo, _⟩ := st.banned z
    rw [ha] at eo; cases eo
  refine q (.ref a) ad ρ σ H' (.grow g) (st.grow g) (fun j s ej => by simp at ej) (.inr ⟨ho, [a], by simp, fun b hb => ?_, .one (hc.weak fun b z => ?_)⟩)
  · have : b = a := by simpa using hb
    subst this
    exact ⟨nb, fun z => nb (st.drF z), .inr ha⟩
  · exact z.imp id fun z => by simpa using z
end
end Pu
/-! Prv: a tuple's [::-1]. -/
namespace Pu
open PySem PySem.Spec PyProof.Rows L2 R
section
variable {prog : Program} {w : World} {A : Around} {E : Value → Shared → Prop} {s : Shared}
theorem rev_adjust (n : Nat) : Builtin.Slice.sliceAdjust none none (-1) (n : Int) = ((n : Int) - 1, -1) := rfl
theorem rev_places (n : Nat) : Builtin.Slice.slicePlaces ((n : Int) - 1) (-1) (-1) = n := by
  unfold Builtin.Slice.slicePlaces
  rw [if_neg (by decide)]
  cases n with
  | zero => rfl
  | succ n =>
    rw [if_pos (show ((n + 1 : Nat) : Int) - 1 > -1 by omega), show (-(-1) : Int) = 1 from rfl, Int.ediv_one]
    omega
theorem rev_pick (xs : List Value) : (List.range xs.length).filterMap (fun (k : Nat) => xs.toArray[(((xs.length : Int) - 1) + (k : Int) * (-1)).toNat]?) = xs.reverse := by
  have e : (List.range xs.length).filterMap (fun (k : Nat) => xs.toArray[(((xs.length : Int) - 1) + (k : Int) * (-1)).toNat]?) = (List.range xs.length).filterMap fun k => xs.reverse[k]? := by
    have : ∀ l : List Nat, (∀ k ∈ l, k < xs.length) → l.filterMap (fun (k : Nat) => xs.toArray[(((xs.length : Int) - 1) + (k : Int) * (-1)).toNat]?) = l.filterMap fun k => xs.reverse[k]? := by
      intro l
      induction l with
      | nil => intro _; rfl
      | cons k l ih =>
        intro h
        have hk := h k List.mem_cons_self
        have e1 : xs.toArray[(((xs.length : Int) - 1) + (k : Int) * (-1)).toNat]? = xs.reverse[k]? := by
          rw [List.getElem?_reverse hk, show (((xs.length : Int) - 1) + (k : Int) * (-1)).toNat = xs.length - 1 - k by omega]
          simp
        rw [List.filterMap_cons, List.filterMap_cons, e1, ih fun j hj => h j (List.mem_cons_of_mem _ hj)]
    exact this _ fun k hk => List.mem_range.mp hk
  rw [e]
  have f : ∀ ys : List Value, (List.range ys.length).filterMap (fun k => ys[k]?) = ys := by
    intro ys
    have : ∀ (n : Nat), n ≤ ys.length → (List.range n).filterMap (fun k => ys[k]?) = ys.take n := by
      intro n
      induction n with
      | zero => intro _; simp
      | succ n ih =>
        intro hn
        rw [List.range_succ, List.filterMap_append, ih (by omega), List.take_succ_eq_append_getElem (by omega)]
        congr 1
        rw [List.filterMap_cons, List.getElem?_eq_getElem (by omega)]
        rfl
    rw [this _ (Nat.le_refl _), List.take_length]
  have := f xs.reverse
  rw [List.length_reverse] at this
  exact this
theorem get_rev {t sl : Addr} {xs : List Value} {vl vu vs : Value} {Q : Value → Shared → Prop} (ht : PyProof.Rows.IsTup s.heap t xs.toArray) (hs : s.heap.IsSliceOf sl vl vu vs) (pl : IsPart vl none) (pu : IsPart vu none) (ps : IsPart vs (some (-1)))
    (h : Q (.ref s.heap.objs.size) { s with heap := s.heap.push { cls := .type "tuple", data := .seq xs.reverse.toArray } }) (hsz : xs.length ≤ sizeLine) : wpAny (model prog w) A (getItem (.ref t) (.ref sl)) Q E s := by
  have fits : sizeOk (.seq xs.reverse.toArray) := by show xs.reverse.toArray.size ≤ sizeLine; simpa using hsz
  obtain ⟨os, e1, e2, e3⟩ := id hs
  have tS : s.TypeIs (.ref sl) "slice" := ⟨os, e1, e2⟩
  unfold getItem
  (try with_reducible refine wpAny_holding ?_); (first | refine wpAny_bind (wpAny_pure ?_) | skip)
  refine wpAny_bind (wpAny_sequenceKey ht.typeIs (by decide) (wpAny_bind (wpAny_callSpecial?_slot (name := Str.ofString "__getitem__") ht.typeIs PyProof.Rows.slot_tuple_getitem (wpAny_call_entry PyProof.Rows.slot_tuple_getitem ht.typeIs PyProof.Rows.entry_tuple_getitem ?_ (PyProof.Rows.args_tuple_getitem _ _)))))
  show wpAny _ _ (Builtin.Tuple.tupleItemsOf (.ref t) >>= _) _ _ s
  refine wpAny_bind (PyProof.Rows.tupleItemsOf_ ht (wpAny_bind (wpAny_typeOf tS ?_)))
  rw [if_pos (by decide)]
  refine wpAny_bind ?_
  unfold Builtin.Slice.sliceApplied Builtin.Slice.sliceFields
  refine wpAny_bind (wpAny_bind (wpAny_field e1 e3 (x := vl) rfl (wpAny_bind (wpAny_field e1 e3 (x := vu) rfl (wpAny_bind (wpAny_field e1 e3 (x := vs) rfl (wpAny_pure (wpAny_bind (HT.slicePart_ ps ?_)))))))))
  show wpAny _ _ (if ((-1 : Int) == 0) = true then _ else _) _ _ s
  rw [if_neg (by decide)]
  refine wpAny_bind (HT.slicePart_ pl (wpAny_bind (HT.slicePart_ pu (wpAny_bind (wpAny_pure ?_)))))
  show wpAny _ _ (match Builtin.Slice.sliceAdjust none none (-1) ((xs.toArray.size : Nat) : Int) with | (lo, hi) => pure (lo, (-1 : Int), Builtin.Slice.slicePlaces lo hi (-1))) _ _ s
  rw [rev_adjust]
  show wpAny _ _ (pure (((xs.toArray.size : Nat) : Int) - 1, (-1 : Int), Builtin.Slice.slicePlaces (((xs.toArray.size : Nat) : Int) - 1) (-1) (-1))) _ _ s
  rw [rev_places, List.size_toArray]
  refine wpAny_pure ?_
  have no : ¬ ((((xs.length : Nat) : Int) - 1 == 0 && (-1 : Int) == 1 && xs.length == xs.toArray.size) = true) := by
    rw [show ((-1 : Int) == 1) = false from rfl, Bool.and_false, Bool.false_and]
    exact Bool.false_ne_true
  show wpAny _ _ (if (((xs.length : Nat) : Int) - 1 == 0 && (-1 : Int) == 1 && xs.length == xs.toArray.size) = true then _ else _) _ _ s
  rw [if_neg no, rev_pick]
  first
    | exact wpAny_bind (m := Builtin.Tuple.tupleExact _) (wpAny_newObj_type (wpAny_pure ⟨_, rfl, wpAny_pure h⟩) fits)
    | exact wpAny_bind (m := Builtin.Tuple.tupleExact _) (wpAny_newObj_type (wpAny_bind (wpAny_pure (wpAny_pure ⟨_, rfl, wpAny_pure h⟩))) fits)
    | exact wpAny_bind (wpAny_bind (m := Builtin.Tuple.tupleExact _) (wpAny_newObj_type (wpAny_pure (wpAny_pure ⟨_, rfl, wpAny_pure h⟩)) fits))
    | exact wpAny_bind (wpAny_bind (m := Builtin.Tuple.tupleExact _) (wpAny_newObj_type (wpAny_pure ⟨_, rfl, wpAny_pure h⟩) fits))
end
section
variable {X : Cx}
/-- t[::-1] -/
def tRevT (K : PySem.W.Frag) (te : TE) : TE := fun σ H Q => te σ H fun x H1 => ∃ a xs, x = .ref a ∧ SqT K H1 a xs ∧ ∀ p, H1 p = none → Q (.ref p) (upd H1 p (.tup xs.reverse))
theorem pe_revT {e : Expr} {te : TE} {k : Nat} {p1 p2 p3 pos : Pos} (he : PE X e te) : PE X (.Subscript e (.Slice none none (some (.UnaryOp .USub (.Constant (.int 1) k p1) p2)) p3) pos) (tRevT X.K te) := by
  refine ⟨fun pins s σ H Q I h => Subscript_ (thn (he.run pins s σ H _ I h) fun v s1 ⟨x, H1, I1, r1, a, xs, ex, hx, q⟩ => ?_)⟩
  subst ex
  cases r1
  have st : PO X (some (.UnaryOp .USub (.Constant (.int 1) k p1) p2)) (tPart (tUn (rU fun i => .int (-i)) (tC (.int 1)))) := po_some (pe_un un_neg pe_int)
  refine wpAny_Slice (thn (po_none.run pins s1 σ H1 (fun o H2 => o = none ∧ H2 = H1) I1 ⟨rfl, rfl⟩) fun vl s2 ⟨l, H2, I2, pl, e1, e2⟩ => thn (po_none.run pins s2 σ H2 (fun o H3 => o = none ∧ H3 = H2) I2 ⟨rfl, rfl⟩) fun vu s3 ⟨u, H3, I3, pu, e3, e4⟩ =>
    thn (st.run pins s3 σ H3 (fun o H4 => o = some (-1) ∧ H4 = H3) I3 ⟨1, rfl, -1, rfl, rfl, rfl⟩) fun vs s4 ⟨o, H4, I4, ps, e5, e6⟩ => ?_)
  subst e1 e2 e3 e4 e5 e6
  have I5 := I4.kept (t' := s4.toks) (h' := s4.heap.push { cls := .type "slice", data := .fields #[vl, vu, vs] }) fun b ob q => Heap.get?_push_of_some _ q
  obtain ⟨its, r, ht, hz⟩ := I5.tuple hx
  have hl := r.length
  show wpAny _ X.A (subscriptTail e (.Slice none none (some (.UnaryOp .USub (.Constant (.int 1) k p1) p2)) p3) (.ref a) (.ref s4.heap.objs.size)) (EP X pins σ Q) X.xe { s4 with heap := s4.heap.push { cls := .type "slice", data := .fields #[vl, vu, vs] } }
  refine tail_any (ops := [.ref a, .ref s4.heap.objs.size]) ht.typeIs PyProof.Rows.slot_tuple_getitem.lookup (get_rev ht (Heap.IsSliceOf.new _ vl vu vs) pl pu ps ?_ (by omega)) (by with_unfolding_all rfl)
  exact ⟨.ref _, _, I5.laid (t' := s4.toks) (o := .tup xs.reverse) (fun b ob q => Heap.get?_push_of_some _ q) (Nat.le_refl _) ⟨by rw [List.length_reverse]; exact hz, _, r.reverse, PyProof.Rows.IsTup.new _ _⟩, rfl, q _ (I5.hok.fresh (Nat.le_refl _))⟩
end
def revR : D → R D
  | .tuple xs => R.ret (.tuple xs.reverse)
  | _ => bad
section
variable {X : Cx} {wd : Wd} {ρ : List Sl} {a : Expr} {ra : R D}
theorem Reps.rev {K : PySem.W.Frag} {B : Addr → Prop} {H : Hp} : ∀ {ds : List D} {vs : List V}, Reps K B H vs ds → Reps K B H vs.reverse ds.reverse
  | [], _, h => by cases h; exact .nil
  | d :: ds, _, h => by
    cases h with
    | cons r t => rw [List.reverse_cons, List.reverse_cons]; exact t.rev.append (.cons r .nil)
theorem ev_revT {k : Nat} {p1 p2 p3 pos : Pos} (ha : EvB X wd ρ a ra) : Ev X wd ρ (.Subscript a (.Slice none none (some (.UnaryOp .USub (.Constant (.int 1) k p1) p2)) p3) pos) (ra.bind fun x => revR x) := fun F ad σ H Q s q => by
  refine be (pe_revT pe_b) ?_
  rw [wp_bind] at q
  refine ha F ad σ H _ s (wp_mono (fun d q v H1 g1 r1 => ?_) (fun _ _ z => z) q)
  have s1 := s.grow g1
  cases d with
  | tuple ds =>
    obtain ⟨l, vs, rfl, e, rr⟩ := r1.tuple
    exact ⟨l, vs, rfl, e.sq, fun p hp => q _ _ (g1.trans (Grow.same (same_upd hp))) (newtup (fun b z => s1.banned z) hp rr.rev)⟩
  | _ => exact q.elim
end
end Pu
/-! Pdx: x = {k: v, k: v}; xs.index(y) of flat items. -/
namespace Pu
open PySem PySem.Spec PyProof.Rows L2 R
def lstR (x : D) : R (List D) := match x with
  | .list ds => ret ds
  | _ => bad
def indexR (ds : List D) (y : D) : R D := if (flatD y && ds.all flatD) = true then (match ds.findIdx? (fun z => eqF z y) with | some j => ret (.int (j : Nat)) | none => bad) else bad
theorem reps_get {K : PySem.W.Frag} {B : Addr → Prop} {H : Hp} : ∀ {ds : List D} {vs : List V}, Reps K B H vs ds → ∀ (m : Nat), (∀ z, vs[m]? = some z → ∃ d, ds[m]? = some d ∧ Rep K B H z d) ∧ (∀ d, ds[m]? = some d → ∃ z, vs[m]? = some z ∧ Rep K B H z d)
  | [], _, h, m => by cases h; exact ⟨fun z e => (by simp at e), fun z e => (by simp at e)⟩
  | d :: ds, _, h, m => by
    cases h with
    | cons a b =>
      cases m with
      | zero => exact ⟨fun z e => ⟨d, rfl, by simp at e; rw [← e]; exact a⟩, fun z e => ⟨_, rfl, by simp at e; rw [← e]; exact a⟩⟩
      | succ m =>
        obtain ⟨p, q⟩ := reps_get b m
        exact ⟨fun z e => p z (by simpa using e), fun z e => q z (by simpa using e)⟩
theorem rep_flat {K : PySem.W.Frag} {B B' : Addr → Prop} {H H' : Hp} {v : V} {d : D} (h : Rep K B H v d) (f : flatD d = true) : Rep K B' H' v d := by
  cases d with
  | none => cases h; exact .non
  | bool b => cases h; exact .bl b
  | int b => cases h; exact .int b
  | str b => cases h; exact .str b
  | _ => cases f
theorem findIdx_some {α : Type} {p : α → Bool} : ∀ {xs : List α} {j : Nat}, xs.findIdx? p = some j → (∃ z, xs[j]? = some z ∧ p z = true) ∧ ∀ m z, m < j → xs[m]? = some z → p z = false
  | [], j, e => by simp at e
  | x :: xs, j, e => by
    rw [List.findIdx?_cons] at e
    by_cases h : p x = true
    · rw [if_pos h] at e
      cases e
      exact ⟨⟨x, rfl, h⟩, fun m z hm => absurd hm (Nat.not_lt_zero _)⟩
    · rw [if_neg h] at e
      cases ef : xs.findIdx? p with
      | none => rw [ef] at e; cases e
      | some i =>
        rw [ef] at e
        obtain rfl : i + 1 = j := by simpa using e
        obtain ⟨⟨z, hz, hp⟩, hn⟩ := findIdx_some ef
        refine ⟨⟨z, by simpa using hz, hp⟩, fun m z hm ez => ?_⟩
        cases m with
        | zero => simp at ez; rw [← ez]; simpa using h
        | succ m => exact hn m z (by omega) (by simpa using ez)
section
variable {CX : CXT} {k : Nat} {wd : Wd} {N : List Str} {sc : Scope} {X : Cx} {S B T : Type} {eS : S → List Sl} {eB : B → List Sl} {eT : T → List Sl} {ρ : List Sl} {e a b : Expr} {rest : List Stmt} {pos p py ap cpos : Pos} {ra rb : R D} {x : Str} {i : Nat}
theorem ev_index (ha : EvB X wd ρ a ra) (hb : Ev X wd ρ b rb) (hbase : attributeBase a "index" X.env (eval a X.env) = eval a X.env := by rfl)
    (hfew : ((backTo cpos (starEach (b :: []) X.env)).all (fun x => !x.1) && (backToKw cpos (keywordEach [] X.env)).all (fun x => x.1.isSome)
      && decide ((b :: ([] : List Expr)).length + ([] : List Keyword).length + (if ([] : List Keyword).isEmpty then 0 else 1) < 30)) = true := by rfl) (hline : (ap.endLine == cpos.line) = true := by rfl)
    (he : starEach (b :: []) X.env = (false, eval b X.env) :: starEach [] X.env := by rfl) : Ev X wd ρ (.Call (.Attribute a "index" ap) [b] [] cpos) (ra.bind fun x => (lstR x).bind fun ds => rb.bind fun y => indexR ds y) := fun F ad σ H Q s q => by
  refine be (pe_bm PySem.F.plainAttrs_list PySem.F.slot_list_index PySem.F.type_list_index mt_index pe_b (pa_cons pe_b pa_nil he) hbase hfew hline he rfl) ?_
  rw [wp_bind] at q
  refine ha F ad σ H _ s (wp_mono (fun d q v H1 g1 r1 => ?_) (fun _ _ z => z) q)
  have s1 := s.grow g1
  cases d with
  | list ds =>
    have q : (rb.bind fun y => indexR ds y).wp (fun d => ∀ v H', Grow wd.dr H H' → Rep X.K (Ban F ρ ad) H' v d → Q v H') (XP X wd F ρ ad H) := q
    rw [wp_bind] at q
    obtain ⟨l, vs, rfl, e1, rr⟩ := r1.list
    refine ⟨.inl ⟨rfl, vs, .inl e1⟩, hb F ad σ H1 _ s1 (wp_mono (fun y q w H2 g2 r2 => ?_) (fun _ _ z => z.grow g1) q)⟩
    unfold indexR at q
    have rr2 : RepB X.K wd.dr (Ban F ρ ad) H2 (.ref l) (.list ds) := r1.stay s1 g2
    obtain ⟨l', vs', el, e2, rr'⟩ := rr2.list
    cases el
    obtain ⟨hf, q⟩ := wp_ite q
    rw [Bool.and_eq_true] at hf
    cases ef : ds.findIdx? (fun z => eqF z y) with
    | none => rw [ef] at q; exact q.elim
    | some j =>
      rw [ef] at q
      obtain ⟨⟨z, hz, hp⟩, hn⟩ := findIdx_some ef
      obtain ⟨zv, hzv, rz⟩ := (reps_get rr' j).2 z hz
      have fz : ∀ {m : Nat} {z : D}, ds[m]? = some z → flatD z = true := fun h => List.all_eq_true.mp hf.2 _ (List.mem_of_getElem? h)
      refine ⟨l, vs', w, j, zv, rfl, rfl, .inl e2, flat_rep r2 hf.1, flats_rep rr' hf.2, hzv, by rw [eqf_rep rz r2 (fz hz) hf.1]; exact hp, fun m z' hm hz' => ?_, q _ _ (g1.trans g2) (.int _)⟩
      obtain ⟨zd, hzd, rzd⟩ := (reps_get rr' m).1 z' hz'
      rw [eqf_rep rzd r2 (fz hzd) hf.1]
      exact hn m zd hm hzd
  | _ => exact q.elim
/-- x = {k1: v1, k2: v2} -/
theorem run_disp2 (c : Cd CX k wd N sc X) {o : R (Out S B T)} {k1 k2 e1 e2 : Expr} {d1 d2 y1 y2 : D} {c1 c2 : Key} (hx : lcB sc x = true) (hN : N[i]? = some x) (hi : wd.pin i = false) (h1 : Ev X wd ρ k1 (ret d1)) (h2 : Ev X wd ρ e1 (ret y1)) (h3 : Ev X wd ρ k2 (ret d2)) (h4 : Ev X wd ρ e2 (ret y2))
    (n1 : keyOf d1 = some c1) (n2 : keyOf d2 = some c2) (f1 : flatD y1 = true) (f2 : flatD y2 = true) (hr : Run X wd eS eB eT (ρ.set i (.k (putD (putD [] c1 y1) c2 y2))) rest o)
    (hs : swapsWith (.Dict [some k1, some k2] [e1, e2] py) (some (.Name x p)) pos.line X.env = pure false := by rfl) : Run X wd eS eB eT ρ (.Assign [.Name x p] (.Dict [some k1, some k2] [e1, e2] py) pos :: rest) o := fun F ad σ H Dn sk q => by
  refine bss (pss_cons (ps_set c.nd' (c.at hN) (c.loc hx) (pe_disp (pps_cons pe_b pe_b (pps_cons pe_b pe_b pps_nil)) rfl rfl (by simp) (by simp)) hs (.inl (c.fn x))) pss_b) ?_
  intro p hp
  have g0 : Grow wd.dr H (upd H p (.dK [])) := Grow.same (same_upd hp)
  have nd : ∀ {H' : Hp}, Grow wd.dr (upd H p (.dK [])) H' → H' p = some (.dK []) := fun g => g.keep p _ upd_same fun z => by
    obtain ⟨o, eo, _⟩ := sk.banned (sk.drF z)
    rw [hp] at eo; cases eo
  have s0 := sk.grow g0
  have q0 := wp_adv (.grow g0) q
  have w0 : ∀ {d : D} {H' : Hp} {Z : D → R (Out S B T)}, (R.bind (ret d) Z).wp (OutOk X wd eS eB eT F ρ ad H' Dn) (XPs X wd F ρ ad H') = (Z d).wp (OutOk X wd eS eB eT F ρ ad H' Dn) (XPs X wd F ρ ad H') := rfl
  refine h1 F ad σ _ _ s0 (fun w1 H1 g1 r1 => ?_)
  have s1 := s0.grow g1
  refine h2 F ad σ _ _ s1 (fun w2 H2 g2 r2 => ?_)
  have s2 := s1.grow g2
  refine h3 F ad σ _ _ s2 (fun w3 H3 g3 r3 => ?_)
  have s3 := s2.grow g3
  refine h4 F ad σ _ _ s3 (fun w4 H4 g4 r4 => ?_)
  have s4 := s3.grow g4
  have gg : Grow wd.dr (upd H p (.dK [])) H4 := ((g1.trans g2).trans g3).trans g4
  have r2' := r2.stay (s2.stays (g3.trans g4))
  refine ⟨nd gg, [(c1, w2), (c2, w4)], by rw [key_rep r1 n1, key_rep r3 n2]; rfl, by simp, ?_⟩
  have gH : Grow wd.dr H (upd H4 p (.dK (mergeK [] [(c1, w2), (c2, w4)]))) := (g0.trans gg).updNew hp
  exact hr F _ _ _ Dn (sk.setOwn gH hp rfl ⟨rfl, _, upd_same, paired_put (paired_put .nil (rep_flat r2' f1)) (rep_flat r4 f2)⟩) (wp_adv (.trans (.setOwn hp hi) (.grow gH)) q)
end
end Pu
/-! Pxe: an own exception whose __init__ says super().__init__(text), then self.f = f. -/
namespace Pu
open PySem PySem.Spec PyProof.Rows L2 R
open NdefX in
/-- what the written part says of such a class and its __init__ -/
structure SupK (P : Program) (K : PySem.W.Frag) (C fI cc : Addr) (F : NF) (fl : Str) : Prop where
  T : OexC K C
  cd : ∃ cd, PySem.W.clsIn K C = some cd
  sup : PySem.W.ks_superIn K C C "__init__" = some (some (.builtin "ValueError.__init__"))
  isV : PySem.W.subIn K (.ref C) (.type "ValueError") = some true
  isC : PySem.W.mroIn K C (.ref C) = some true
  noA : PySem.W.nsIn K cStatics "thirdparty.any" = some none
  code : ∃ (oc : Value) (od : Option Addr) (vs : Array Value) (sl : Array (Option Value)) (file : Str) (tf : Tok), K.lookup F.c = some ⟨oc, od, .fields vs, sl⟩ ∧ vs[2]? = some (.str file tf) ∧ ((P.main.file : Str) == file) = true
  cell : ∃ (oc : Value) (od : Option Addr) (sl : Array (Option Value)), K.lookup cc = some ⟨oc, od, .cell (some (.ref C)), sl⟩
  fno : PySem.W.findIn K (.ref C) fl = some none
  fn : ∃ (oc : Value) (od : Option Addr) (doc pm ctv : Value) (sl : Array (Option Value)), K.lookup fI = some ⟨oc, od, .func (F.fd doc pm ctv), sl⟩
  cdI : PySem.W.codeIn K (.ref F.c) F.qual = true
  cl : F.cl = [(("__class__" : Str), cc)]
theorem sup_call {env : Env} {msg : Str} {j : Nat} {p0 p1 p2 p3 p4 : Pos} (hp : (p2.endLine == p4.line) = true) : ∃ pl, eval (.Call (.Attribute (.Call (.Name "super" p0) [] [] p1) "__init__" p2) [.Constant (.str msg) j p3] [] p4) env = (do
      let ov ← attributeBase (.Call (.Name "super" p0) [] [] p1) "__init__" env (eval (.Call (.Name "super" p0) [] [] p1) env)
      standAt p2.atName
      let (f, first) ← holding [ov] (getMethod ov "__init__" pl)
      callWith p4 f first (backTo p4 (starEach [.Constant (.str msg) j p3] env)) []) := by
  have e : ∀ o, methodCallPos true o env p2 p4 = pure p4 := fun o => by
    unfold methodCallPos
    rw [hp, Bool.or_true, if_pos rfl]
  refine ⟨(do return (← importBound (.Call (.Name "super" p0) [] [] p1) env).getD true), ?_⟩
  show (do
      let ov ← attributeBase (.Call (.Name "super" p0) [] [] p1) "__init__" env (eval (.Call (.Name "super" p0) [] [] p1) env)
      standAt p2.atName
      let (f, first) ← holding [ov] (getMethod ov "__init__" (do return (← importBound (.Call (.Name "super" p0) [] [] p1) env).getD true))
      let callPos ← methodCallPos true (.Call (.Name "super" p0) [] [] p1) env p2 p4
      callWith callPos f first (backTo p4 (starEach [.Constant (.str msg) j p3] env)) []) = _
  simp only [e, pure_bind]
/-- what it keeps: the field is set -/
def spIn (C : Addr) (fl : Str) : Sp := fun vs H Q _ => ∃ a y, vs = [.ref a, y] ∧ H a = some (exo a C none) ∧ ∀ d, H d = none → d ≠ a → Q .non (upd (upd H d (exd d [(fl, y)])) a (exo a C (some d)))
section
open NdefX
variable {P : Program} {w : World} {K : PySem.W.Frag} {mg : Str → Option Value} {base : Heap} {C fI cc : Addr} {F : NF} {fl msg : Str} {p0 p1 p2 p3 p4 p5 q1 q2 q3 q4 : Pos} {j k : Nat}
theorem sup_run (S : SupK P K C fI cc F fl) (N : NScope [("self" : Str), fl, "__class__"] [("self" : Str), fl] [("__class__" : Str)] F.scope)
    (hbody : F.body = [.Expr (.Call (.Attribute (.Call (.Name "super" p0) [] [] p1) "__init__" p2) [.Constant (.str msg) j p3] [] p4) p5, .Assign [.Attribute (.Name "self" q1) fl q2] (.Name fl q3) q4])
    (hks : F.scope.names.lookup ("super" : Str) = some .globalImplicit) (hdb : (fl == ("__debug__" : Str)) = false) (hdc : (fl == ("__classdict__" : Str)) = false)
    (hp : ∃ ar, (F.params.posonlyargs ++ F.params.args).head? = some ar ∧ ar.arg = "self") (htop : (P.main.scope.names.lookup ("super" : Str)).isSome = false) (hms : mg "super" = none) (hboot : bootBuiltins "super" = some (.type "super"))
    (hpos : (p2.endLine == p4.line) = true) (hb : ∀ (doc pm ctv : Value) (us : List Value), us.length = 2 → bindArgs (F.fd doc pm ctv) ⟨us, []⟩ = pure (([("self" : Str), fl] : List Str).zip us)) :
    ∃ fd, Binds K fd ([("self" : Str), fl] : List Str) [] ∧ FnOk P w K mg base CX0 (k + 1) fI fd ([("self" : Str), fl] : List Str) (spIn C fl) := by
  obtain ⟨T, ⟨cd, hcd⟩, sup, isV, isC, noA, ⟨oc1, od1, vs1, sl1, file, tf, hcode, hvs, hfile⟩, ⟨oc2, od2, sl2, hcell⟩, fno, ⟨oc3, od3, doc, pm, ctv, sl3, lk⟩, cdI, hFcl⟩ := S
  refine ⟨F.fd doc pm ctv, .all (hb doc pm ctv), fun vs H Q E h => ?_, fun A outer s H args us vs Q E hr e0 hbi r hsp => ?_⟩
  rotate_left
  obtain ⟨hp0, sg, sd, stk, sos⟩ := s
  rotate_left
  · obtain ⟨a, y, rfl, _⟩ := h
    rfl
  obtain ⟨a, y, rfl, ea, q⟩ := hsp
  have KX : K.In hp0 := e0.mod.kin.keeps fun b o e => (e0.bs b o e).1
  have lim : hp0.NoLimit := e0.mod.nolimit.keeps fun b o e => (e0.bs b o e).1
  have ho := KX _ _ lk
  -- the two arguments
  have hr2 := r
  cases r with
  | @cons _ u0 _ ur ra rr =>
  cases rr with
  | @cons _ u1 _ ur2 r1 rn =>
  cases rn
  obtain rfl : u0 = Value.ref a := ra
  have CE : CellsAt F.cl [("__class__" : Str)] [some (V.ref C)] hp0 H := by
    refine ⟨rfl, fun y c hy => ?_, fun x y c hx hy => ?_, fun i y hi => ?_⟩
    · rw [hFcl] at hy
      simp only [List.lookup] at hy
      split at hy
      · cases hy
        have hb := e0.mod.kin _ _ hcell
        exact ⟨(e0.bs _ _ hb).2, some (.ref C), ⟨_, (e0.bs _ _ hb).1, rfl⟩⟩
      · cases hy
    · rw [hFcl] at hx hy
      simp only [List.lookup] at hx hy
      split at hx
      · rename_i e1
        split at hy
        · rename_i e2
          rw [eq_of_beq e1, eq_of_beq e2]
        · cases hy
      · cases hx
    · match i, hi with
      | 0, hi =>
        cases hi
        refine ⟨cc, by rw [hFcl]; simp [List.lookup], fun v hv => ?_⟩
        cases hv
        exact ⟨.ref C, rfl, ⟨_, KX _ _ hcell, rfl⟩⟩
  refine codeAny_call_function hr.depth ho rfl N.co N.gen rfl (PySem.W.codeRec_of KX cdI) (hbi _ _ _ _ ?_)
  refine wpAny_newFunctionEnv N.nocell (fun ⟨n, _⟩ hy => N.par n (List.of_mem_zip hy).1) (fun h₁ hns hsb => ⟨lim.fresh _ hsb, ?_⟩) N.kind
  show codeAny _ _ (.func F.body (envF F fI hp0.objs.size)) _ _
  refine ks_codeAny_funcAt ?_
  have kp : ∀ b o, hp0.get? b = some o → h₁.get? b = some o := fun b o e => hsb.extBut b o (Nat.ne_of_lt (Heap.lt_size e)) (Heap.get?_push_of_some _ e)
  have I : Inv (ncx CX0 P w K mg base [("self" : Str), fl, "__class__"] F fI A outer ⟨hp0, sg, sd, stk, sos⟩ H E) [] (startF [("self" : Str), fl, "__class__"] [V.ref a, y] [some (V.ref C)]) H ⟨h₁, sg, sd, stk + ([("self" : Str), fl].zip [Value.ref a, u1]).length, sos⟩ := inv_startN N hr.hd e0 rfl hr2 CE hns kp
  have KX1 : K.In h₁ := fun b o e => kp _ _ (KX b o e)
  have hax := exo_at I.hok ea
  obtain ⟨t1, hoe⟩ := hax
  have hoe : h₁.get? a = some ({ cls := .ref C, dict := none, data := .fields #[.ref t1, .none, .none, .none, .bool false, .none] } : Obj) := hoe
  obtain ⟨oD, hD1, hD2⟩ : ∃ oD, h₁.get? C = some oD ∧ oD.data = .cls cd := by
    unfold PySem.W.clsIn at hcd
    split at hcd
    · rename_i c d cd' sl ho
      cases hcd
      exact ⟨_, KX1 _ _ ho, rfl⟩
    · cases hcd
  obtain ⟨ar, har, harn⟩ := hp
  have hself : F.scope.names.lookup ("self" : Str) = some .local := N.par "self" (by simp)
  have hcls : F.scope.names.lookup ("__class__" : Str) = some .free := N.frk "__class__" (by simp)
  have kn : ∀ x, (envF F fI hp0.objs.size).kindOf x = F.scope.names.lookup x := fun x => rfl
  rw [hbody]
  obtain ⟨pl, he0⟩ := sup_call (env := envF F fI hp0.objs.size) (msg := msg) (j := j) (p0 := p0) (p1 := p1) (p3 := p3) hpos
  refine ks_wpAt_execs_cons (ks_wpAt_Expr_any (ks_wpAt_MethodCall ?_ he0) ?_ ?_)
  · refine ks_wpAt_super_base (env := envF F fI hp0.objs.size) hks hcls (by decide +kernel) rfl (kp _ _ ho) rfl har rfl (KX1 _ _ hcode) rfl hvs hfile htop ?_
    refine PySem.W.ks_loadName_global N.kind hks ?_
    obtain ⟨mb, hb1, hb2⟩ := I.mod.blt
    refine Calls.loadGlobal_builtin (I.mod.glob.keeps I.bk) hms (hb1.keeps I.bk) ((hb2 "super" (by decide)).trans hboot) ⟨rfl, ?_⟩
    have hcl2 : (envF F fI hp0.objs.size).cells.lookup ("__class__" : Str) = some cc := by
      show F.cl.lookup _ = _
      rw [hFcl]
      simp [List.lookup]
    refine wpAny_loadName_free N.kind hcls hcl2 ⟨_, KX1 _ _ hcell, rfl⟩ ?_
    have hne : (("self" : Str) == fl) = false := by
      have := N.nd
      simp at this
      simpa using this.1.1
    refine wpAny_loadName_local N.kind (show F.scope.names.lookup ar.arg = some .local by rw [harn]; exact hself) hns (v := .ref a) (by rw [harn]; simp [List.lookup, hne]) ?_
    refine ks_wpAny_isType_cls hD1 hD2 ⟨rfl, ?_⟩
    refine ks_wpAny_call_super hD1 hD2 hoe rfl (fun c e => by cases e) (PySem.W.looks_mroIn KX1 isC) (fun h' e k => ?_)
    have I1 : Inv (ncx CX0 P w K mg base [("self" : Str), fl, "__class__"] F fI A outer ⟨hp0, sg, sd, stk, sos⟩ H E) [] (startF [("self" : Str), fl, "__class__"] [V.ref a, y] [some (V.ref C)]) H _ := I.kept (t' := stk + ([("self" : Str), fl].zip [Value.ref a, u1]).length) k
    have KX2 : K.In h' := fun b o e => k _ _ (KX1 b o e)
    have hoe2 := k _ _ hoe
    have IA : PySem.W.InstAt h' a ({ cls := .ref C, dict := none, data := .fields #[.ref t1, .none, .none, .none, .bool false, .none] } : Obj) C none := ⟨hoe2, rfl, rfl, trivial⟩
    have hsup := sup
    unfold PySem.W.ks_superIn at hsup
    rw [hcd, Option.bind_some] at hsup
    refine PySem.W.kxs_getMethod PySem.W.kxs_ValueError e (PySem.W.looks_opaque KX2 noA) (l₀ := cd.mro) (fun A Q E s k q => wpAny_bind ((PySem.W.looks_clsIn KX2 hcd) A _ E s k (wpAny_pure q))) rfl KX2 hsup (IA.type.andThen (PySem.W.looks_subIn KX2 isV)) (PySem.W.ks_ne KX2 IA hcd) (by decide +kernel) ?_
    have I2 : Inv (ncx CX0 P w K mg base [("self" : Str), fl, "__class__"] F fI A outer ⟨hp0, sg, sd, stk, sos⟩ H E) [] (startF [("self" : Str), fl, "__class__"] [V.ref a, y] [some (V.ref C)]) H ⟨h'.push (PySem.W.kxs_mw "ValueError.__init__" a), sg, sd, stk + ([("self" : Str), fl].zip [Value.ref a, u1]).length + 1, sos⟩ := I1.kept fun b o e => Heap.get?_push_of_some _ e
    have hu : (h'.push (PySem.W.kxs_mw "ValueError.__init__" a)).get? h'.objs.size = some (PySem.W.kxs_mw "ValueError.__init__" a) := Heap.get?_push_at rfl rfl
    have I3 : Inv (ncx CX0 P w K mg base [("self" : Str), fl, "__class__"] F fI A outer ⟨hp0, sg, sd, stk, sos⟩ H E) [(h'.objs.size, PySem.W.kxs_mw "ValueError.__init__" a)] (startF [("self" : Str), fl, "__class__"] [V.ref a, y] [some (V.ref C)]) H ⟨h'.push (PySem.W.kxs_mw "ValueError.__init__" a), sg, sd, stk + ([("self" : Str), fl].zip [Value.ref a, u1]).length + 1, sos⟩ := by
      refine { I2 with pin := fun p hp => ?_ }
      have hp : p ∈ ([] : List (Addr × Obj)) ++ [(h'.objs.size, PySem.W.kxs_mw "ValueError.__init__" a)] := hp
      simp at hp
      subst hp
      exact ⟨hu, I1.hok.fresh (Nat.le_refl _), Nat.ne_of_gt I1.lt, I1.nofs (Nat.le_refl _), fun v e => by cases e⟩
    refine PySem.W.kxs_callWith (i := "ValueError.__init__") (x := a) rfl ?_
    have he : starEach [Expr.Constant (.str msg) j p3] (envF F fI hp0.objs.size) = (false, eval (.Constant (.str msg) j p3) (envF F fI hp0.objs.size)) :: starEach [] (envF F fI hp0.objs.size) := rfl
    rw [he]
    refine PySem.Calls.evalArgs_plain ?_
    show wpAny _ _ (spliced (backTo p4 (starEach [Expr.Constant (.str msg) j p3] (envF F fI hp0.objs.size)))) _ _ _
    have hPA : PA (ncx CX0 P w K mg base [("self" : Str), fl, "__class__"] F fI A outer ⟨hp0, sg, sd, stk, sos⟩ H E) [.Constant (.str msg) j p3] (tCons (tC (.str msg)) tNil) := pa_cons pe_str pa_nil
    refine thn (hPA.run p4 _ _ _ H (fun vs H1 => vs = [.str msg] ∧ H1 = H) I3 ⟨rfl, rfl⟩) fun us s1 hh => ?_
    obtain ⟨vs, H1, I4, rv, ev, eH⟩ := hh
    subst ev
    rw [eH] at I4
    have hu4 : s1.heap.get? h'.objs.size = some (PySem.W.kxs_mw "ValueError.__init__" a) := (I4.pin (h'.objs.size, PySem.W.kxs_mw "ValueError.__init__" a) (List.mem_append_right _ List.mem_cons_self)).1
    refine ⟨hu4, ?_⟩
    have I5 : Inv (ncx CX0 P w K mg base [("self" : Str), fl, "__class__"] F fI A outer ⟨hp0, sg, sd, stk, sos⟩ H E) [] (startF [("self" : Str), fl, "__class__"] [V.ref a, y] [some (V.ref C)]) H s1 := { I4 with pin := fun p hp => absurd (show p ∈ ([] : List (Addr × Obj)) ++ [] from hp) (by simp) }
    have hlen : us.length ≤ sizeLine := by
      rw [← Paired.length rv]
      show 1 ≤ sizeLine
      rw [sizeLine_eq]
      omega
    obtain ⟨t5, hoe5⟩ := exo_at I5.hok ea
    obtain ⟨nm, qn, Nn, bs, bm, sn, sub, ab, col, dd, k0, k1, k2, k3, k5, hC, hbm⟩ := T.cls
    have hC5 := I5.kIn _ _ hC
    obtain ⟨h5, g5, d5, t6, os5⟩ := s1
    refine wpAny_call (codeAny_of_tree ?_)
    show wpAny _ _ (callAny (.ref h'.objs.size) ⟨us, []⟩) _ _ _
    simp only [callAny]
    refine wpAny_bind (wpAny_load hu4 ?_)
    simp only [PySem.W.kxs_mw, show (Value.type "method-wrapper" == Value.type "method" || Value.type "method-wrapper" == Value.type "builtin_function_or_method" || Value.type "method-wrapper" == Value.type "method-wrapper") = true by decide, if_true]
    refine PySem.W.KFB.if_so (by decide) ?_
    refine wpAny_bind (PySem.W.check_bound_init PySem.F.excBase_ValueError.toExcCallFacts hC5 hoe5 rfl ?_)
    refine wpAny_bind (wpAny_pure (wpAny_pure ?_))
    refine ⟨plainId_quiet PySem.F.excBase_ValueError.init.plain _, codeAny_builtin PySem.F.excBase_ValueError.initEntry ?_⟩
    refine PySem.W.exc_init_tree (cls := .ref C) (t0 := t5) (dv := none) (c2 := .none) (c3 := .none) (b4 := .bool false) hoe5 hlen fun h6 k6 e6 _ => ?_
    have I6 := I5.write (h' := h6) (t' := t6) (x := a) (e := a) (o := exo a C none) (by rw [ea]; exact True.intro) (.inl rfl) k6 ⟨_, e6⟩ (exo_ok e6)
    have eu : upd H a (exo a C none) = H := by
      funext b
      by_cases hb : b = a
      · rw [hb, upd_same, ea]
      · rw [upd_ne hb]
    rw [eu] at I6
    show PySem.wpAt _ _ _ (execs [Stmt.Assign [(Expr.Name (Str.ofString "self") q1).Attribute fl q2] (Expr.Name fl q3) q4] (envF F fI hp0.objs.size)) _ _ _
    have hflv : F.scope.names.lookup fl = some .local := N.par fl (by simp)
    have hs2 : PSs (ncx CX0 P w K mg base [("self" : Str), fl, "__class__"] F fI A outer ⟨hp0, sg, sd, stk, sos⟩ H E) [Stmt.Assign [(Expr.Name (Str.ofString "self") q1).Attribute fl q2] (Expr.Name fl q3) q4] _ :=
      pss_one (ps_ost (pe_var (i := 0) rfl (.inl hself) (by decide +kernel) (by decide +kernel)) (pe_var (i := 1) rfl (.inl hflv) hdb hdc) rfl)
    refine wpAt_of_wpAny (wpAny_mono (hs2.run [] _ (startF [("self" : Str), fl, "__class__"] [V.ref a, y] [some (V.ref C)]) H { nx := fun _ H' => Q .non H', rt := Q } I6 ?_) (fun fl2 s' hs => ?_) fun e s' hs => hs)
    · exact ⟨y, rfl, .ref a, rfl, a, C, rfl, T, fno, .inl ⟨ea, fun dx n ne => q dx n ne⟩⟩
    · have fin : ∀ {σ' : L2.St} {H' : Hp} {v : V} {u : Value}, Inv (ncx CX0 P w K mg base [("self" : Str), fl, "__class__"] F fI A outer ⟨hp0, sg, sd, stk, sos⟩ H E) [] σ' H' s' → L2.RelV v u → Q v H' → L2.CE outer P w H ⟨hp0, sg, sd, stk, sos⟩ Q u s' :=
        fun {σ' H' v u} J rv q => ⟨v, H', J.os, J.bare, J.base, J.hok, rv, q⟩
      cases fl2 with
      | ret u =>
        obtain ⟨v, σ', H', J, rv, q⟩ := hs
        exact fin J rv q
      | next =>
        obtain ⟨σ', H', J, q⟩ := hs
        exact fin (v := V.non) (u := Value.none) J rfl q
      | brk =>
        obtain ⟨_, _, _, q⟩ := hs
        exact False.elim q
      | cont =>
        obtain ⟨_, _, _, q⟩ := hs
        exact False.elim q
  · unfold interactive
    simp [N.kind]
  · rfl
end
end Pu
/-! Pxr: defs that raise, over the layer. -/
namespace Pu
open PySem PySem.Spec PyProof.Rows L2 R
/-- an error: its class, and what its field holds -/
def XR (K : PySem.W.Frag) (xc : Nat → Value × Option Str) (B : Addr → Prop) (H : Hp) (c : Nat) (x : D) (C : Value) (dx : Option Addr) : Prop :=
  C = (xc c).1 ∧ match (xc c).2 with
  | none => dx = none
  | some f => ∃ d v, dx = some d ∧ H d = some (.xd [(f, v)]) ∧ Rep K B H v x
theorem XR.weak {K : PySem.W.Frag} {xc : Nat → Value × Option Str} {B B' : Addr → Prop} {H : Hp} {c : Nat} {x : D} {C : Value} {dx : Option Addr} (h : XR K xc B H c x C dx) (hb : ∀ b, B' b → B b) : XR K xc B' H c x C dx := by
  obtain ⟨h1, h2⟩ := h
  refine ⟨h1, ?_⟩
  cases e : (xc c).2 with
  | none => rw [e] at h2; exact h2
  | some f =>
    rw [e] at h2
    obtain ⟨d, v, q1, q2, q3⟩ := h2
    exact ⟨d, v, q1, q2, q3.weak hb⟩
/-- a def that computes m of its arguments, or raises -/
def spE (K : PySem.W.Frag) (xc : Nat → Value × Option Str) (n : Nat) (m : List D → R D) : Sp := fun vs H Q E => ∃ (B : Addr → Prop) (ds : List D), Fo K H B ∧ ds.length = n ∧ Reps K B H vs ds ∧
  (m ds).wp (fun d => ∀ v H', Same H H' → Rep K B H' v d → Q v H') fun c x => ∀ C dx H', Same H H' → XR K xc B H' c x C dx → E C dx H'
def wdE (E : XK) (xc : Nat → Value × Option Str) : Wd := ⟨none, E, xc, fun _ => false, false, true⟩
instance {E : XK} {xc : Nat → Value × Option Str} : Calm (wdE E xc) := ⟨rfl⟩
/-- the context of a def's body that may raise -/
structure Ce (k : Nat) (wd : Wd) (N : List Str) (sc : Scope) (X : Cx) : Prop extends Cd (L2.CX X.prog X.w) k wd N sc X where
  tk : Takes X (fun c d _ H => wd.W c d H)
section
variable {P : Program} {w : World} {K : PySem.W.Frag} {mg : Str → Option Value} {base : Heap} {N ps : List Str} {x : Str} {st : Stmt} {k : Nat} {xc : Nat → Value × Option Str}
theorem df_ofE (A : At K mg x st ps) (S : FnScope N ps (defScope st)) {m : List D → R D} {T : Type} {eT : T → List Sl} {o : List D → R (Out Unit Empty T)}
    (hm : ∀ ds, ds.length = ps.length → m ds = endR0 (o ds)) {eN : Unit → List Sl} {eB : Empty → List Sl}
    (hrun : ∀ (X : Cx) (E : XK), Ce k (wdE E xc) N (defScope st) X → X.prog = P → X.w = w → X.K = K → X.mg = mg → X.base = base → CodeX K x X → ∀ ds, ds.length = ps.length → Run X (wdE E xc) eN eB eT (slots N ds) (defBody st) (o ds)) :
    Df P w K mg base (L2.CX P w) (k + 1) x (spE K xc ps.length m) := by
  obtain ⟨f, fd, h1, h2, h3, F⟩ := A.ok
  have hco := F.code
  obtain ⟨oc, od, kV, doc, pm, an, cdv, ct, osl, rfl, lk, hcd⟩ := F.ex
  refine ⟨f, _, ps, h1, h2, h3, fn_of lk hcd S (fun vs H Q E h => ?_) (fun A outer s H vs Q E hr h => ?_)⟩
  · obtain ⟨B, ds, _, hl, r, _⟩ := h
    rw [r.length, hl]
  · obtain ⟨B, ds, nb, hl, r, q⟩ := h
    refine ⟨_, pss_b, ?_⟩
    have hN : ps.length ≤ N.length := by have := congrArg List.length S.pre; rw [List.length_take] at this; omega
    have st0 := start_ok (K := K) (N := N) (ad := fun _ => 0) nb r (by omega)
    rw [hm ds hl] at q
    unfold endR0 at q
    rw [wp_bind] at q
    have tk : Takes (cxOf (L2.CX P w) P w K mg base N x (defScope st) f cdv A outer s H E) (fun c d _ H => (wdE E xc).W c d H) := takes_of rfl rfl rfl rfl
    refine hrun (cxOf (L2.CX P w) P w K mg base N x (defScope st) f cdv A outer s H E) E ⟨⟨⟨rfl, rfl, S.nd, fun _ => rfl, un_of hr, fun _ => hr, passes_of rfl, passes_call tk fun _ _ _ _ h => h⟩, fun _ => rfl, S.kind, rfl, rfl⟩, tk⟩ rfl rfl rfl rfl rfl hco ds hl B (fun _ => 0) _ H _ st0 (wp_mono (fun z q => ?_) (fun c x z => ?_) q)
    · cases z with
      | nx u => exact fun ad' σ' H' a s' => q _ H' (fun b o e => (a.keep b o e has_none fun ⟨i, o, _⟩ => slots_own o).1) .non
      | bk b => exact b.elim
      | ct b => exact b.elim
      | rt d t => exact fun v ad' ρ' σ' H' a s' _ r => q v H' (fun b o e => (a.keep b o e has_none fun ⟨i, o, _⟩ => slots_own o).1) ((r.rep rfl).weak fun b => .inl)
    · intro C dx ad' ρ' σ' H' a s' xr
      exact z C dx H' (fun b o e => (a.keep b o e has_none fun ⟨i, o, _⟩ => slots_own o).1) (XR.weak (show XR K xc (Ban B ρ' ad') H' c x C dx from xr) fun b => .inl)
end
/-- what raises nothing may be called from where errors fly -/
theorem fn_cx {P : Program} {w : World} {K : PySem.W.Frag} {mg : Str → Option Value} {base : Heap} {CX : CXT} {k : Nat} {f : Addr} {fd : FuncData} {ps : List Str} {sp : Sp} (F : FnOk P w K mg base CX0 k f fd ps sp) : FnOk P w K mg base CX k f fd ps sp :=
  ⟨F.len, fun A outer s H args us vs Q E hr e0 hb r h => codeAny_mono (F.run A outer s H args us vs Q E hr e0 hb r h) fun r s' hq => by
    cases r with
    | error e => exact False.elim hq
    | ok fl => cases fl <;> exact hq⟩
theorem Df.cx {P : Program} {w : World} {K : PySem.W.Frag} {mg : Str → Option Value} {base : Heap} {CX : CXT} {j : Nat} {x : Str} {sp : Sp} (h : Df P w K mg base CX0 j x sp) : Df P w K mg base CX j x sp := by
  obtain ⟨f, fd, ps, h1, h2, h3, h4⟩ := h.ok
  exact ⟨f, fd, ps, h1, h2, h3, fn_cx h4⟩
section
variable {CX : CXT} {k : Nat} {wd : Wd} {N : List Str} {sc : Scope} {X : Cx} {ρ : List Sl} {e : Expr} {pos p : Pos} {ra : R D}
/-- a call of a def that may raise -/
theorem ev_callE [Calm wd] (c : Cw CX k wd N sc X) {x : Str} {j n : Nat} {m : List D → R D} {es : List Expr} {rs : R (List D)} (hd : wd.dr = none) (G : Dn X CX j x (spE X.K wd.xc n m)) (hj : j ≤ k) (hg : glB sc x = true) (ha : EvA X wd ρ (e :: es) rs) (hm : ∀ ds, ds.length ≠ n → m ds = bad)
    (he : starEach (e :: es) X.env = (false, eval e X.env) :: starEach es X.env := by rfl) (hpl : (backTo pos (starEach es X.env)).any (·.1) = false := by rfl) : Ev X wd ρ (.Call (.Name x p) (e :: es) [] pos) (rs.bind m) := fun F ad σ H Q s q => by
  obtain ⟨f, fd, ps, h1, h2, h3, h4⟩ := G.ok
  refine be (pe_call h4 (c.room.mono hj) (c.gl hg).1 h1 h2 h3 .nil c.ps pa_b (c.gl hg).2.1 he hpl) ?_
  rw [wp_bind] at q
  refine ha F ad σ H _ s (wp_mono (fun ds q vs H1 g1 r1 => ?_) (fun _ _ z => z) q)
  have s1 := s.grow g1
  by_cases hl : ds.length = n
  · exact ⟨Ban F ρ ad, ds, s1.fo, hl, by rw [List.append_nil]; exact r1, wp_mono (fun d z v H' sm r => z v H' (g1.trans (Grow.same sm)) r) (fun c x z C dx H' sm xr => z C dx H' (g1.trans (Grow.same sm)) xr) q⟩
  · rw [hm ds hl] at q; exact q.elim
end
section
variable {k : Nat} {wd : Wd} {N : List Str} {sc : Scope} {X : Cx} {S B T : Type} {eS : S → List Sl} {eB : B → List Sl} {eT : T → List Sl} {ρ : List Sl} {e : Expr} {rest : List Stmt} {pos p pos2 : Pos} {x fl : Str} {ra : R D}
/-- an own class of errors with a field -/
structure XcO (X : Cx) (k : Nat) (x : Str) (C : Addr) (fl : Str) : Prop where
  ok : ∃ (fI : Addr) (fd : FuncData), X.mg x = some (.ref C) ∧ OexC X.K C ∧ PySem.W.findIn X.K (.ref C) "__init__" = some (some (.ref fI)) ∧ PySem.W.typeIn X.K (.ref fI) = some (.type "function") ∧ Binds X.K fd ([("self" : Str), fl] : List Str) [] ∧ FnOk X.prog X.w X.K X.mg X.base CX0 k fI fd ([("self" : Str), fl] : List Str) (spIn C fl)
/-- raise C(e) -/
theorem run_raise [Calm wd] (c : Ce k wd N sc X) {j c0 : Nat} {C : Addr} (G : XcO X j x C fl) (hj : j + 1 ≤ k) (hx : wd.xc c0 = (.ref C, some fl)) (hg : glB sc x = true) (ha : Ev X wd ρ e ra) (he : Plain X e := by exact fun _ => rfl) :
    Run X wd eS eB eT ρ (.Raise (some (.Call (.Name x p) [e] [] pos)) none pos2 :: rest) (ra.bind fun d => R.exc c0 d) := fun F ad σ H Dn s q => by
  obtain ⟨fI, fd, h1, h2, h3, h4, h5, h6⟩ := G.ok
  have pN : Passes (L2.CX X.prog X.w) X (fun _ _ _ => False) := passes_call c.tk fun _ _ _ _ z => z.elim
  refine bss (pss_cons (ps_raise c.calm c.tk (pmk_oex h2 h3 h4 (fn_cx h6) (c.room.mono hj) h5 .nil pN (c.gl hg).1 h1 (pa_cons pe_b pa_nil (he [])) (c.gl hg).2.1 (he []) rfl)) pss_b) ?_
  rw [wp_bind] at q
  refine ha F ad σ H _ s (wp_mono (fun d q v H1 g1 r1 => ?_) (fun _ _ z => z.xp s) q)
  have s1 := s.grow g1
  refine ⟨by show 1 ≤ 1000; omega, fun a ha => ⟨a, v, rfl, upd_same, fun dd hdd dne => ⟨rfl, dd, [(fl, v)], upd_same, by rw [upd_ne dne, upd_same], by rw [upd_ne dne] at hdd; exact hdd, ?_⟩⟩⟩
  have hdd1 : H1 dd = none := by rw [upd_ne dne] at hdd; exact hdd
  have sm : Same H1 (upd (del (upd (upd (upd H1 a (exo a C none)) dd (exd dd [(fl, v)])) a (exo a C (some dd))) a) dd (.xd [(fl, v)])) := fun b o eb => by
    have hb : b ≠ dd := fun z => by rw [z, hdd1] at eb; cases eb
    have hb2 : b ≠ a := fun z => by rw [z, ha] at eb; cases eb
    rw [upd_ne hb, del_ne hb2, upd_ne hb2, upd_ne hb, upd_ne hb2]
    exact eb
  have g2 : Grow wd.dr H1 _ := Grow.same sm
  refine q (.ref C) (some dd) ad ρ σ _ (.grow (g1.trans g2)) (s1.grow g2) ⟨by rw [hx], ?_⟩
  rw [hx]
  exact ⟨dd, v, rfl, upd_same, r1.stay (s1.stays g2)⟩
end
end Pu
/-! Pxt: try .. except C as e, the body one call; the suite leaves. -/
namespace Pu
open PySem PySem.Spec PyProof.Rows L2 R
section
variable {K : PySem.W.Frag} {B B' : Addr → Prop} {H : Hp}
theorem TpS.banX {a : Addr} {vs : List V} (h : TpS K B H a vs) (hb : ∀ b, B' b → B b ∨ ∃ fs, H b = some (.xd fs)) : TpS K B' H a vs := by
  refine ⟨h.1, fun z => ?_⟩
  rcases hb _ z with z | ⟨fs, z⟩
  · exact h.2 z
  · rw [h.1] at z; cases z
mutual
theorem Rep.banX (hb : ∀ b, B' b → B b ∨ ∃ fs, H b = some (.xd fs)) : ∀ {d : D} {v : V}, Rep K B H v d → Rep K B' H v d
  | .none, _, h => by cases h; exact .non
  | .bool b, _, h => by cases h; exact .bl b
  | .int i, _, h => by cases h; exact .int i
  | .str x, _, h => by cases h; exact .str x
  | .tuple ds, _, h => by
    cases h with
    | tup a c => exact .tup (a.banX hb) (Reps.banX hb c)
  | .list ds, _, h => by
    cases h with
    | lst a b c =>
      refine .lst a (fun z => ?_) (Reps.banX hb c)
      rcases hb _ z with z | ⟨fs, z⟩
      · exact b z
      · rcases a with a | ⟨o, a⟩ <;> (rw [z] at a; cases a)
  | .dict _, _, h => by cases h
theorem Reps.banX (hb : ∀ b, B' b → B b ∨ ∃ fs, H b = some (.xd fs)) : ∀ {ds : List D} {vs : List V}, Reps K B H vs ds → Reps K B' H vs ds
  | [], _, h => by cases h; exact .nil
  | d :: ds, _, h => by
    cases h with
    | cons a b => exact .cons (Rep.banX hb a) (Reps.banX hb b)
end
end
section
variable {K : PySem.W.Frag} {dr : Drs} {F : Addr → Prop} {ρ : List Sl} {σ : L2.St} {H : Hp} {ad : Nat → Addr}
/-- an exception's dict is banned besides -/
theorem StOk.exF (s : StOk K dr F ρ σ H ad) {dd : Addr} {fs : List (Str × V)} (e : H dd = some (.xd fs)) : StOk K dr (fun b => F b ∨ b = dd) ρ σ H ad := by
  have hb : ∀ b, Ban (fun b => F b ∨ b = dd) ρ ad b → Ban F ρ ad b ∨ ∃ fs, H b = some (.xd fs) := by
    rintro b ((b | rfl) | b)
    · exact .inl (.inl b)
    · exact .inr ⟨fs, e⟩
    · exact .inl (.inr b)
  refine ⟨s.len, s.inj, fun i oi z => ?_, fun b z => ?_, fun a l z => ?_, s.tb, fun i t ei => ?_⟩
  · rcases z with z | z
    · exact s.nf i oi z
    · obtain ⟨t, et, ot⟩ := oi
      have w := s.sl i t et
      cases t with
      | l xs => obtain ⟨_, vs, e2, _⟩ := w; rw [z, e] at e2; cases e2
      | k xs => obtain ⟨_, vs, e2, _⟩ := w; rw [z, e] at e2; cases e2
      | kt xs => obtain ⟨_, vs, e2, _⟩ := w; rw [z, e] at e2; cases e2
      | _ => cases ot
  · rcases z with z | rfl
    · exact s.fa b z
    · exact ⟨_, e, fun _ z => nomatch z⟩
  · obtain ⟨f, fl, ne, q⟩ := s.dk a l z
    exact ⟨.inl f, .inl fl, ne, q⟩
  · exact (s.sl i t ei).mono (fun v d r => r.banX hb) (fun vs ds r => r.banX hb) (fun _ _ z => z) (fun _ z => .inl z)
end
section
variable {K : PySem.W.Frag} {dr : Drs} {F : Addr → Prop} {ρ : List Sl} {σ : L2.St} {H : Hp} {ad : Nat → Addr}
theorem own_setE {i j : Nat} {s : Sl} (hs : s.own = false) (o : Own (ρ.set i s) j) : Own ρ j := by
  obtain ⟨t, e, q⟩ := o
  by_cases hj : j = i
  · subst hj
    by_cases hl : j < ρ.length
    · rw [List.getElem?_set_self hl] at e
      cases e
      rw [hs] at q; cases q
    · rw [List.getElem?_eq_none (by simpa using hl)] at e; cases e
  · rw [List.getElem?_set_ne (Ne.symm hj)] at e
    exact ⟨t, e, q⟩
theorem StOk.setE (h : StOk K dr F ρ σ H ad) {i : Nat} {v : V} {s : Sl} (hs : s.own = false) (r : SlOk K dr F (Ban F ρ ad) H (some (some v)) (ad i) s) : StOk K dr F (ρ.set i s) (σ.set i (some v)) H ad := by
  have hb : ∀ b, Ban F (ρ.set i s) ad b → Ban F ρ ad b := by
    rintro b (b | ⟨j, o, e⟩)
    · exact .inl b
    · exact .inr ⟨j, own_setE hs o, e⟩
  refine ⟨by simpa using h.len, fun a b x y => h.inj a b (own_setE hs x) (own_setE hs y), fun a x => h.nf a (own_setE hs x), h.fa, h.dk, h.tb, fun j t e => ?_⟩
  by_cases hj : j = i
  · subst hj
    by_cases hl : j < ρ.length
    · rw [List.getElem?_set_self hl] at e
      cases e
      rw [List.getElem?_set_self (by rw [h.len]; exact hl)]
      exact r.mono (fun v d r => r.weak hb) (fun v d r => r.weak hb) fun _ _ q => q
    · rw [List.getElem?_eq_none (by simpa using hl)] at e; cases e
  · rw [List.getElem?_set_ne (Ne.symm hj)] at e
    rw [List.getElem?_set_ne (Ne.symm hj)]
    exact (h.sl j t e).mono (fun v d r => r.weak hb) (fun v d r => r.weak hb) fun _ _ q => q
theorem own_rep {n i : Nat} : ¬ Own (List.replicate n Sl.no) i := by
  rintro ⟨s, e, q⟩
  rw [List.getElem?_replicate] at e
  split at e
  · cases e; cases q
  · cases e
end
/-- where an exception is handled: no further one may leave -/
abbrev Wd.hot (wd : Wd) : Wd := { wd with W := fun _ _ _ => False, cm := false }
section
variable {CX : CXT} {k : Nat} {wd : Wd} {N : List Str} {sc : Scope} {X : Cx}
theorem passes_no {Y : Cx} {P : Program} {w : World} : Passes (L2.CX P w) Y (fun _ _ _ => False) := fun pins σ H s e s' I h => by
  obtain ⟨_, _, _, _, _, _, _, _, _, _, _, _, q⟩ := h
  exact q.elim
theorem Cd.suite (c : Cd CX k wd N sc X) (a : Addr) (pn : List (Addr × Obj)) : Cd (L2.CX X.prog X.w) k wd.hot N sc (X.suite a pn) :=
  ⟨⟨c.hN, c.hs, c.nd, fun h => Bool.noConfusion h, c.un, fun h => Bool.noConfusion h, PassesOwn.never, passes_no⟩, c.fn, c.kind, c.stk, c.frm⟩
end
/-- what follows a call that may raise c0 -/
def tryR {α : Type} (c0 : Nat) (ok : D → R α) (h : D → R α) : R D → R α
  | .ret d => ok d
  | .exc c x => if c = c0 then h x else bad
  | .bad => bad
  | .pick n k => .pick n fun i => tryR c0 ok h (k i)
theorem wp_try {α : Type} {c0 : Nat} {ok h : D → R α} {Q : α → Prop} {E : Nat → D → Prop} : ∀ {r : R D}, (tryR c0 ok h r).wp Q E → r.wp (fun d => (ok d).wp Q E) fun c x => c = c0 ∧ (h x).wp Q E
  | .ret d, q => q
  | .exc c x, q => by
    have q : (if c = c0 then h x else bad).wp Q E := q
    by_cases e : c = c0
    · rw [if_pos e] at q; exact ⟨e, q⟩
    · rw [if_neg e] at q; exact q.elim
  | .bad, q => q
  | .pick n k, q => fun i a b => wp_try (q i a b)
section
variable {CX : CXT} {k : Nat} {wd : Wd} {N : List Str} {sc : Scope} {X : Cx} {ρ : List Sl} {pos p : Pos} {i : Nat} {x fl : Str} {a dd : Addr} {y : D}
/-- e.f, e the exception that is handled -/
theorem ev_exf {X0 : Cx} {oe : Obj} {cls : Value} {C : Addr} {pn : List (Addr × Obj)} (hX : X = X0.suite a ((a, oe) :: pn)) (c : Cw CX k wd N sc X) (T : XfC X0.K C) (hno : PySem.W.findIn X0.K (.ref C) fl = some none) (hz : Zc (.ref C) (some dd) oe) (hf : ∃ vs, oe.data = .fields vs)
    (hv : visB sc x = true) (hN : N[i]? = some x) (hρ : ρ[i]? = some (.e a (some (dd, fl, y)))) : Ev X wd ρ (.Attribute (.Name x p) fl pos) (R.ret y) := fun F ad σ H Q s q => by
  subst hX
  obtain ⟨v1, v2, v3⟩ := c.vis hv
  obtain ⟨e1, h2⟩ := s.sl i _ hρ
  obtain ⟨_, _, v, h3, h4⟩ := h2 dd fl y rfl
  refine be (pe_xf (cls := .ref C) (d := some dd) T hno hz hf (pe_var (X := X0.suite a ((a, oe) :: pn)) (i := i) (by rw [c.hN]; exact hN) v1 v2 v3)) ?_
  exact ⟨_, e1, rfl, rfl, dd, [(fl, v)], v, rfl, h3, by simp [List.lookup], q v H (Grow.refl _ _) h4⟩
end
/-- a suite that leaves by return -/
def upE {S B T : Type} (r : R (Out Empty Empty T)) : R (Out S B T) := r.bind fun o => match o with
  | .nx s => s.elim
  | .bk s => s.elim
  | .ct s => s.elim
  | .rt d t => R.ret (.rt d t)
section
variable {CX : CXT} {k : Nat} {wd : Wd} {N : List Str} {sc : Scope} {X : Cx} {S B T : Type} {eS : S → List Sl} {eB : B → List Sl} {eT : T → List Sl} {eE eE2 : Empty → List Sl} {ρ : List Sl} {e : Expr} {es : List Expr} {rest suite : List Stmt} {b₀ : Stmt} {pos pa pc pf py np ph : Pos} {f y n cn fl : Str} {l i j nn c0 : Nat} {C : Addr} {cv : Value} {xc : Nat → Value × Option Str}
theorem Cw.tr [Calm wd] (c : Cd CX k wd N sc X) (W : NoW wd) (pn : List (Addr × Obj)) (xe : Value → Shared → Prop) (po : PassesOwn (model X.prog X.w) X.A X.env xe) : Cw (L2.CX X.prog X.w) k wd N sc (X.tr pn xe) :=
  ⟨c.hN, c.hs, c.nd, fun _ => c.calm, c.un, fun _ => c.room, po, by rw [W.w]; exact passes_no⟩
theorem run_try1 [Calm wd] (c : Cd CX k wd N sc X) (W : NoW wd) {m : List D → R D} {rs : R (List D)} {hh : D → R (Out Empty Empty T)} {o : D → R (Out S B T)} {sl : Sl}
    (G : Dn X (L2.CX X.prog X.w) j f (spE X.K xc nn m)) (hj : j ≤ k) (hg : glB sc f = true) (hm : ∀ ds, ds.length ≠ nn → m ds = bad) (hxc : xc c0 = (.ref C, some fl)) (hex : PySem.W.exmOne X.K (.ref C) cv = some true) (hcn : Names X cn cv)
    (hy : lcB sc y = true) (hN : N[l]? = some y) (hn : locB sc n = true) (hNn : N[i]? = some n) (hni : ρ[i]? = some sl) (hno : sl.own = false)
    (ha : ∀ pn xe, PassesOwn (model X.prog X.w) X.A X.env xe → EvA (X.tr pn xe) wd ρ (e :: es) rs)
    (hs : ∀ (a dd : Addr) (oe : Obj) (pn : List (Addr × Obj)) (x : D), Zc (.ref C) (some dd) oe → (∃ vs, oe.data = .fields vs) → Run (X.suite a ((a, oe) :: pn)) wd.hot eE eE2 eT (ρ.set i (.e a (some (dd, fl, x)))) (b₀ :: suite) (hh x))
    (hr : ∀ d, Run X wd eS eB eT (ρ.set l (.d d)) rest (o d)) (heT : ∀ (t : T) (i : Nat) (s : Sl), (eT t)[i]? = some s → s.own = false)
    (hsw : ∀ pn xe, swapsWith (.Call (.Name f pf) (e :: es) [] pc) (some (.Name y py)) pa.line (X.tr pn xe).env = pure false := by exact fun _ _ => rfl)
    (he : starEach (e :: es) X.env = (false, eval e X.env) :: starEach es X.env := by rfl) (hpl : (backTo pc (starEach es X.env)).any (·.1) = false := by rfl) :
    Run X wd eS eB eT ρ (.Try [.Assign [.Name y py] (.Call (.Name f pf) (e :: es) [] pc) pa] [.ExceptHandler (some (.Name cn np)) (some n) (b₀ :: suite) ph] [] [] pos :: rest) (rs.bind fun ds => tryR c0 o (fun x => upE (hh x)) (m ds)) := fun F ad σ H Dn st q => by
  obtain ⟨fa, fd, ps, h1, h2, h3, h4⟩ := G.ok
  have hln : X.env.kindOf n = some .local := by
    show X.env.scope.names.lookup n = _
    rw [c.hs]
    exact locB_eq hn
  let tb : WX → TS := fun W D σ H => ∀ pn xe, Takes (X.tr pn xe) W → PassesOwn (model X.prog X.w) X.A X.env xe → BSs (X.tr pn xe) [.Assign [.Name y py] (.Call (.Name f pf) (e :: es) [] pc) pa] D σ H
  let ts : Addr → Value → Option Addr → TS := fun a cls d D σ H => ∀ (oe : Obj) (pn : List (Addr × Obj)), Zc cls d oe → (∃ vs, oe.data = .fields vs) → BSs (X.suite a ((a, oe) :: pn)) (b₀ :: suite) D σ H
  refine bss (pss_cons (ps_try_as (Wout := fun _ _ _ _ => False) (tb := tb) (ts := ts) c.stk c.frm c.nd' (c.at hNn) hln hcn (fun u s' x => by
    obtain ⟨_, _, _, _, _, _, _, _, _, _, _, _, _, _, _, _, w⟩ := x
    exact w.elim) (fun W pn xe tk po => ⟨fun pins s σ H D I h => h pn xe tk po pins s I⟩) fun a oe cls d pn hz hf => ⟨fun pins s σ H D I h => h oe pn hz hf pins s I⟩) pss_b) ?_
  intro pn xe tk po
  rw [wp_bind] at q
  refine bss (pss_one (ps_set (i := l) (X := X.tr pn xe) (by rw [show (X.tr pn xe).N = N from c.hN]; exact c.nd) (by rw [show (X.tr pn xe).N = N from c.hN]; exact hN) (c.loc hy) (pe_callS (X := X.tr pn xe) h4 (c.room.mono hj) (c.gl hg).1 h1 h2 h3 (fun σ => passAt tk σ) pa_b (c.gl hg).2.1 he hpl) (hsw pn xe) (.inl (c.fn y)))) ?_
  refine ha pn xe po F ad σ H _ st (wp_mono (fun ds q vs H1 g1 r1 => ?_) (fun _ _ z => (W.xp (z.xp st)).elim) q)
  have s1 := st.grow g1
  by_cases hl : ds.length = nn
  · refine ⟨Ban F ρ ad, ds, s1.fo, hl, r1, wp_mono (fun d q v H' sm r => ?_) (fun c' x q Cx dx H' sm xr => ?_) (wp_try q)⟩
    · have g2 : Grow wd.dr H H' := g1.trans (Grow.same sm)
      exact hr d F ad (σ.set l (some v)) H' Dn ((st.grow g2).set r) (wp_adv (.trans (.grow g2) .set) q)
    · obtain ⟨ec, q9⟩ := q
      subst ec
      obtain ⟨e1, e2⟩ := xr
      rw [hxc] at e1 e2
      obtain ⟨dd, v0, rfl, e3, e4⟩ := e2
      have e1 : Cx = .ref C := e1
      subst e1
      refine ⟨true, hex, fun _ a ha0 oe pn2 hz hf => ?_, fun z => by cases z⟩
      have g2 : Grow wd.dr H H' := g1.trans (Grow.same sm)
      have s2 := st.grow g2
      have s3 := s2.exF e3
      have ndd : ¬ Has wd.dr dd := fun z => by
        obtain ⟨a', l', ea, z⟩ := z
        exact (s2.dk a' l' ea).2.2.2.nox z e3
      have rx : Rep X.K (Ban (fun b => F b ∨ b = dd) ρ ad) H' v0 x := e4.banX (by
        rintro b ((b | rfl) | b)
        · exact .inl (.inl b)
        · exact .inr ⟨_, e3⟩
        · exact .inl (.inr b))
      have s4 : StOk X.K wd.dr (fun b => F b ∨ b = dd) (ρ.set i (.e a (some (dd, fl, x)))) (σ.set i (some (.ref a))) H' ad := s3.setE rfl ⟨rfl, fun dd' f' y' ee => by
        cases ee
        exact ⟨.inr rfl, ndd, v0, e3, rx⟩⟩
      refine hs a dd oe pn2 x hz hf _ ad _ H' _ s4 ?_
      unfold upE at q9
      rw [wp_bind] at q9
      refine wp_mono (fun o2 q => ?_) (fun _ _ z => (W.xp (z.xp st)).elim) q9
      cases o2 with
      | nx s => exact s.elim
      | bk s => exact s.elim
      | ct s => exact s.elim
      | rt d t =>
        have q : OutOk X wd eS eB eT F ρ ad H Dn (.rt d t) := q
        intro v ad' ρ' σ' H2 adv st' ht ret
        have dw : ∀ a l, wd.dr = some (a, l) → DrAt H a l → DrAt H2 a l := fun a l ea dl => adv.draw a l ea (g2.draw a l ea dl)
        refine q v ad' (List.replicate σ'.length .no) σ' H2 ⟨fun b o eb nb no => ⟨(adv.keep b o (g2.keep b o eb nb) nb fun ⟨j, oj, ej⟩ => no ⟨j, own_setE rfl oj, ej⟩).1, fun ⟨j, oj, _⟩ => own_rep oj⟩, dw, adv.pin⟩
          ⟨by simp, fun _ _ o => absurd o own_rep, fun _ o => absurd o own_rep, fun b hb => st'.fa b (.inl hb), fun a l ea => by
            obtain ⟨f1, f2, f3, f4⟩ := st.dk a l ea
            exact ⟨f1, f2, f3, dw a l ea f4⟩, st'.tb, fun j s ej => by
            rw [List.getElem?_replicate] at ej
            split at ej
            · cases ej; trivial
            · cases ej⟩ (fun j s ej oj => by rw [heT t j s ej] at oj; cases oj) ?_
        refine (ret.weak (B' := Ban F (List.replicate σ'.length .no) ad') ?_).mono fun b nb z => ?_
        · rintro b (b | ⟨j, oj, _⟩)
          · exact .inl (.inl b)
          · exact absurd oj own_rep
        · rcases z with ⟨j, oj, ej⟩ | z
          · exact .inl ⟨j, own_setE rfl oj, ej⟩
          · exact .inr (free_grow st g2 z)
  · rw [hm ds hl] at q; exact q.elim
theorem run_try0 [Calm wd] (c : Cd CX k wd N sc X) (W : NoW wd) {m : List D → R D} {rs : R (List D)} {hh : D → R (Out Empty Empty T)} {o : R (Out S B T)} {sl : Sl}
    (G : Dn X (L2.CX X.prog X.w) j f (spE X.K xc nn m)) (hj : j ≤ k) (hg : glB sc f = true) (hm : ∀ ds, ds.length ≠ nn → m ds = bad) (hxc : xc c0 = (.ref C, some fl)) (hex : PySem.W.exmOne X.K (.ref C) cv = some true) (hcn : Names X cn cv)
    (hn : locB sc n = true) (hNn : N[i]? = some n) (hni : ρ[i]? = some sl) (hno : sl.own = false)
    (ha : ∀ pn xe, PassesOwn (model X.prog X.w) X.A X.env xe → EvA (X.tr pn xe) wd ρ (e :: es) rs)
    (hs : ∀ (a dd : Addr) (oe : Obj) (pn : List (Addr × Obj)) (x : D), Zc (.ref C) (some dd) oe → (∃ vs, oe.data = .fields vs) → Run (X.suite a ((a, oe) :: pn)) wd.hot eE eE2 eT (ρ.set i (.e a (some (dd, fl, x)))) (b₀ :: suite) (hh x))
    (hr : Run X wd eS eB eT ρ rest o) (heT : ∀ (t : T) (i : Nat) (s : Sl), (eT t)[i]? = some s → s.own = false)
    (hsw : ∀ pn xe, swapsWith (.Call (.Name f pf) (e :: es) [] pc) none pa.line (X.tr pn xe).env = pure false := by exact fun _ _ => rfl)
    (he : starEach (e :: es) X.env = (false, eval e X.env) :: starEach es X.env := by rfl) (hpl : (backTo pc (starEach es X.env)).any (·.1) = false := by rfl) :
    Run X wd eS eB eT ρ (.Try [.Expr (.Call (.Name f pf) (e :: es) [] pc) pa] [.ExceptHandler (some (.Name cn np)) (some n) (b₀ :: suite) ph] [] [] pos :: rest) (rs.bind fun ds => tryR c0 (fun _ => o) (fun x => upE (hh x)) (m ds)) := fun F ad σ H Dn st q => by
  obtain ⟨fa, fd, ps, h1, h2, h3, h4⟩ := G.ok
  have hln : X.env.kindOf n = some .local := by
    show X.env.scope.names.lookup n = _
    rw [c.hs]
    exact locB_eq hn
  let tb : WX → TS := fun W D σ H => ∀ pn xe, Takes (X.tr pn xe) W → PassesOwn (model X.prog X.w) X.A X.env xe → BSs (X.tr pn xe) [.Expr (.Call (.Name f pf) (e :: es) [] pc) pa] D σ H
  let ts : Addr → Value → Option Addr → TS := fun a cls d D σ H => ∀ (oe : Obj) (pn : List (Addr × Obj)), Zc cls d oe → (∃ vs, oe.data = .fields vs) → BSs (X.suite a ((a, oe) :: pn)) (b₀ :: suite) D σ H
  refine bss (pss_cons (ps_try_as (Wout := fun _ _ _ _ => False) (tb := tb) (ts := ts) c.stk c.frm c.nd' (c.at hNn) hln hcn (fun u s' x => by
    obtain ⟨_, _, _, _, _, _, _, _, _, _, _, _, _, _, _, _, w⟩ := x
    exact w.elim) (fun W pn xe tk po => ⟨fun pins s σ H D I h => h pn xe tk po pins s I⟩) fun a oe cls d pn hz hf => ⟨fun pins s σ H D I h => h oe pn hz hf pins s I⟩) pss_b) ?_
  intro pn xe tk po
  rw [wp_bind] at q
  refine bss (pss_one (ps_expr (X := X.tr pn xe) (pe_callS (X := X.tr pn xe) h4 (c.room.mono hj) (c.gl hg).1 h1 h2 h3 (fun σ => passAt tk σ) pa_b (c.gl hg).2.1 he hpl) (hsw pn xe))) ?_
  refine ha pn xe po F ad σ H _ st (wp_mono (fun ds q vs H1 g1 r1 => ?_) (fun _ _ z => (W.xp (z.xp st)).elim) q)
  have s1 := st.grow g1
  by_cases hl : ds.length = nn
  · refine ⟨Ban F ρ ad, ds, s1.fo, hl, r1, wp_mono (fun d q v H' sm r => ?_) (fun c' x q Cx dx H' sm xr => ?_) (wp_try q)⟩
    · have g2 : Grow wd.dr H H' := g1.trans (Grow.same sm)
      exact hr F ad σ H' Dn (st.grow g2) (wp_adv (.grow g2) q)
    · obtain ⟨ec, q9⟩ := q
      subst ec
      obtain ⟨e1, e2⟩ := xr
      rw [hxc] at e1 e2
      obtain ⟨dd, v0, rfl, e3, e4⟩ := e2
      have e1 : Cx = .ref C := e1
      subst e1
      refine ⟨true, hex, fun _ a ha0 oe pn2 hz hf => ?_, fun z => by cases z⟩
      have g2 : Grow wd.dr H H' := g1.trans (Grow.same sm)
      have s2 := st.grow g2
      have s3 := s2.exF e3
      have ndd : ¬ Has wd.dr dd := fun z => by
        obtain ⟨a', l', ea, z⟩ := z
        exact (s2.dk a' l' ea).2.2.2.nox z e3
      have rx : Rep X.K (Ban (fun b => F b ∨ b = dd) ρ ad) H' v0 x := e4.banX (by
        rintro b ((b | rfl) | b)
        · exact .inl (.inl b)
        · exact .inr ⟨_, e3⟩
        · exact .inl (.inr b))
      have s4 : StOk X.K wd.dr (fun b => F b ∨ b = dd) (ρ.set i (.e a (some (dd, fl, x)))) (σ.set i (some (.ref a))) H' ad := s3.setE rfl ⟨rfl, fun dd' f' y' ee => by
        cases ee
        exact ⟨.inr rfl, ndd, v0, e3, rx⟩⟩
      refine hs a dd oe pn2 x hz hf _ ad _ H' _ s4 ?_
      unfold upE at q9
      rw [wp_bind] at q9
      refine wp_mono (fun o2 q => ?_) (fun _ _ z => (W.xp (z.xp st)).elim) q9
      cases o2 with
      | nx s => exact s.elim
      | bk s => exact s.elim
      | ct s => exact s.elim
      | rt d t =>
        have q : OutOk X wd eS eB eT F ρ ad H Dn (.rt d t) := q
        intro v ad' ρ' σ' H2 adv st' ht ret
        have dw : ∀ a l, wd.dr = some (a, l) → DrAt H a l → DrAt H2 a l := fun a l ea dl => adv.draw a l ea (g2.draw a l ea dl)
        refine q v ad' (List.replicate σ'.length .no) σ' H2 ⟨fun b o eb nb no => ⟨(adv.keep b o (g2.keep b o eb nb) nb fun ⟨j, oj, ej⟩ => no ⟨j, own_setE rfl oj, ej⟩).1, fun ⟨j, oj, _⟩ => own_rep oj⟩, dw, adv.pin⟩
          ⟨by simp, fun _ _ o => absurd o own_rep, fun _ o => absurd o own_rep, fun b hb => st'.fa b (.inl hb), fun a l ea => by
            obtain ⟨f1, f2, f3, f4⟩ := st.dk a l ea
            exact ⟨f1, f2, f3, dw a l ea f4⟩, st'.tb, fun j s ej => by
            rw [List.getElem?_replicate] at ej
            split at ej
            · cases ej; trivial
            · cases ej⟩ (fun j s ej oj => by rw [heT t j s ej] at oj; cases oj) ?_
        refine (ret.weak (B' := Ban F (List.replicate σ'.length .no) ad') ?_).mono fun b nb z => ?_
        · rintro b (b | ⟨j, oj, _⟩)
          · exact .inl (.inl b)
          · exact absurd oj own_rep
        · rcases z with ⟨j, oj, ej⟩ | z
          · exact .inl ⟨j, own_setE rfl oj, ej⟩
          · exact .inr (free_grow st g2 z)
  · rw [hm ds hl] at q; exact q.elim
end
end Pu
/-! Pxn: defs that raise: what raises nothing inside of them. -/
namespace Pu
open PySem PySem.Spec PyProof.Rows L2 R
/-- no error may come -/
abbrev Wd.quiet (wd : Wd) : Wd := { wd with W := fun _ _ _ => False, xc := noE }
instance quietCalm {wd : Wd} [q : Calm wd] : Calm wd.quiet := ⟨q.h⟩
theorem noW_quiet {wd : Wd} : NoW wd.quiet := ⟨rfl, fun _ => rfl⟩
theorem cxF {P : Program} {w : World} : ∀ (outer : List Env) (H : Hp) (s : Shared) (e : Value) (s' : Shared), L2.CX P w outer H s (fun _ _ _ => False) e s' → False := fun outer H s e s' h => by
  obtain ⟨_, _, _, _, _, _, _, _, _, _, _, _, q⟩ := h
  exact q
section
variable {k j : Nat} {wd : Wd} {N : List Str} {sc : Scope} {X : Cx} {ρ : List Sl} {e a : Expr} {S B T : Type} {eS : S → List Sl} {eB : B → List Sl} {eT : T → List Sl} {rest A1 B1 : List Stmt}
theorem Ce.q (c : Ce k wd N sc X) : Cd (L2.CX X.prog X.w) k wd.quiet N sc X := ⟨⟨c.hN, c.hs, c.nd, c.calm', c.un, c.room', c.po, passes_call c.tk fun _ _ _ _ z => z.elim⟩, c.fn, c.kind, c.stk, c.frm⟩
theorem ev_nx {r : R D} (h : Ev X wd.quiet ρ e r) : Ev X wd ρ e (nx r) := fun F ad σ H Q s q => h F ad σ H Q s (wp_nx q)
theorem evb_nx {r : R D} (h : EvB X wd.quiet ρ e r) : EvB X wd ρ e (nx r) := fun F ad σ H Q s q => h F ad σ H Q s (wp_nx q)
theorem evt_nx {r : R Bool} (h : EvT X wd.quiet ρ e r) : EvT X wd ρ e (nx r) := fun F ad σ H Q s q => h F ad σ H Q s (wp_nx q)
theorem evl_nx {r : R (List D)} (h : EvL X wd.quiet ρ e r) : EvL X wd ρ e (nx r) := fun F ad σ H Q s q => h F ad σ H Q s (wp_nx q)
theorem evi_nx {tg : Expr} {r : R (List D)} (h : EvI X wd.quiet ρ tg e r) : EvI X wd ρ tg e (nx r) := fun F ad σ H Q s q => h F ad σ H Q s (wp_nx q)
variable {I : List Nat} {es : List Expr} {pos p py : Pos} {f x : Str} {i : Nat} {β : Type} {m : List Ar → R β} {fd : β → D} {fo : β → List Ct} {own : Bool} {M : R β}
theorem step_callN [Calm wd] (c : Ce k wd N sc X) (G : Df X.prog X.w X.K X.mg X.base (L2.CX X.prog X.w) j f (spX X.K own fd fo m)) (hj : j ≤ k) (hg : glB sc f = true) (hI : ∀ i ∈ I, Own ρ i) (nd : I.Nodup) (hcs : CallS X wd.quiet ρ I [] [] (e :: es) M m)
    (he : starEach (e :: es) X.env = (false, eval e X.env) :: starEach es X.env) (hpl : (backTo pos (starEach es X.env)).any (·.1) = false) {F : Addr → Prop} {ad : Nat → Addr} {σ : L2.St} {H : Hp} {Dn : Ends} (s : StOk X.K wd.dr F ρ σ H ad) {Q : VK} {o : β → R (Out S B T)}
    (q : ((nx M).bind o).wp (OutOk X wd eS eB eT F ρ ad H Dn) (XPs X wd F ρ ad H))
    (h : ∀ r v H', StOk X.K wd.dr F (setC ρ I (fo r)) σ H' ad → GrowO wd.dr (I.map ad) H H' → RetO own wd.dr X.K (fun a => H a = none) (Ban F ρ ad) H' v (fd r) → (o r).wp (OutOk X wd eS eB eT F (setC ρ I (fo r)) ad H' Dn) (XPs X wd F (setC ρ I (fo r)) ad H') → Q v H') : BE X (.Call (.Name f p) (e :: es) [] pos) σ H Q := by
  rw [wp_bind] at q
  exact call_read c.q.toCw noW_quiet G hj hg hI nd hcs he hpl s (wp_mono (fun r q v H' g ou rt => h r v H' (s.call hI nd g ou) g rt (wp_adv (.call s hI g) q)) (fun _ _ z => z) (wp_nx q))
/-- f(..) alone -/
theorem run_callEn [Calm wd] (c : Ce k wd N sc X) (G : Df X.prog X.w X.K X.mg X.base (L2.CX X.prog X.w) j f (spX X.K own fd fo m)) (hj : j ≤ k) (hg : glB sc f = true) (hI : ∀ i ∈ I, Own ρ i) (nd : I.Nodup) (hcs : CallS X wd.quiet ρ I [] [] (e :: es) M m) {o : β → R (Out S B T)} (hr : ∀ r, Run X wd eS eB eT (setC ρ I (fo r)) rest (o r))
    (he : starEach (e :: es) X.env = (false, eval e X.env) :: starEach es X.env := by rfl) (hpl : (backTo pos (starEach es X.env)).any (·.1) = false := by rfl) (hs : swapsWith (.Call (.Name f p) (e :: es) [] pos) none py.line X.env = pure false := by rfl) : Run X wd eS eB eT ρ (.Expr (.Call (.Name f p) (e :: es) [] pos) py :: rest) ((nx M).bind o) := fun F ad σ H Dn s q =>
  bss (pss_cons (ps_expr pe_b hs) pss_b) (step_callN c G hj hg hI nd hcs he hpl s q fun r v H' s' _ _ q => hr r F ad σ H' Dn s' q)
end
/-! ### own classes of errors, as the top has written them -/
/-- the def in a class's body -/
def clsInit : Stmt → Stmt
  | .ClassDef _ _ _ (s :: _) _ _ _ _ _ _ _ => s
  | s => s
structure XcK (P : Program) (w : World) (K : PySem.W.Frag) (mg : Str → Option Value) (base : Heap) (x fl : Str) : Prop where
  ok : ∃ (C fI : Addr) (fd : FuncData), mg x = some (.ref C) ∧ OexC K C ∧ XfC K C ∧ PySem.W.findIn K (.ref C) fl = some none ∧ PySem.W.exmOne K (.ref C) (.ref C) = some true ∧ PySem.W.findIn K (.ref C) "__init__" = some (some (.ref fI)) ∧ PySem.W.typeIn K (.ref fI) = some (.type "function") ∧
    Binds K fd ([("self" : Str), fl] : List Str) [] ∧ FnOk P w K mg base CX0 1 fI fd ([("self" : Str), fl] : List Str) (spIn C fl)
/-- the errors of a text: their classes by name, and their fields -/
def xcT (mg : Str → Option Value) (l : List (Str × Str)) : Nat → Value × Option Str := fun n => match l[n]? with
  | some (x, f) => (match mg x with
    | some v => (v, some f)
    | none => (.none, none))
  | none => (.none, none)
theorem xcT_of {mg : Str → Option Value} {l : List (Str × Str)} {n : Nat} {x f : Str} {v : Value} (h : l[n]? = some (x, f)) (hm : mg x = some v) : xcT mg l n = (v, some f) := by unfold xcT; rw [h]; simp only [hm]
/-- the exception that a suite holds -/
structure Caught (K : PySem.W.Frag) (mg : Str → Option Value) (cn : Str) (C dd : Addr) (oe : Obj) (fl : Str) : Prop where
  m : mg cn = some (.ref C)
  T : XfC K C
  no : PySem.W.findIn K (.ref C) fl = some none
  z : Zc (.ref C) (some dd) oe
  f : ∃ vs, oe.data = .fields vs
section
variable {k j : Nat} {wd : Wd} {N : List Str} {sc : Scope} {X : Cx} {ρ : List Sl} {e a : Expr} {S B T : Type} {eS : S → List Sl} {eB : B → List Sl} {eT : T → List Sl} {eE eE2 : Empty → List Sl} {rest : List Stmt} {pos p pos2 : Pos} {x fl : Str} {ra : R D}
/-- raise C(e) -/
theorem run_raiseT [Calm wd] (c : Ce k wd N sc X) (G : XcK X.prog X.w X.K X.mg X.base x fl) (hj : 2 ≤ k) {l : List (Str × Str)} {c0 : Nat} (hw : wd.xc = xcT X.mg l) (hl : l[c0]? = some (x, fl)) (hg : glB sc x = true) (ha : Ev X wd ρ e ra) (he : Plain X e := by exact fun _ => rfl) :
    Run X wd eS eB eT ρ (.Raise (some (.Call (.Name x p) [e] [] pos)) none pos2 :: rest) (ra.bind fun d => R.exc c0 d) := by
  obtain ⟨C, fI, fd, h1, h2, h3, h4, h5, h6, h7, h8, h9⟩ := G.ok
  exact run_raise (C := C) (fl := fl) (j := 1) c ⟨⟨fI, fd, h1, h2, h6, h7, h8, h9⟩⟩ hj (by rw [hw]; exact xcT_of hl h1) hg ha he
variable {CX : CXT} {es : List Expr} {b₀ : Stmt} {suite : List Stmt} {pa pc pf py np ph : Pos} {f y n cn : Str} {i nn c0 : Nat}
/-- what a call that may raise, but does not, computes -/
theorem ev_callQ [Calm wd] (c : Cw CX k wd N sc X) {xc : Nat → Value × Option Str} {m : List D → R D} {rs : R (List D)} (G : Df X.prog X.w X.K X.mg X.base (L2.CX X.prog X.w) j x (spE X.K xc nn m)) (hj : j ≤ k) (hg : glB sc x = true) (ha : EvA X wd ρ (e :: es) rs) (hm : ∀ ds, ds.length ≠ nn → m ds = bad)
    (he : starEach (e :: es) X.env = (false, eval e X.env) :: starEach es X.env := by rfl) (hpl : (backTo pos (starEach es X.env)).any (·.1) = false := by rfl) : Ev X wd ρ (.Call (.Name x p) (e :: es) [] pos) (rs.bind fun ds => nx (m ds)) := fun F ad σ H Q s q => by
  obtain ⟨fa, fd, ps, h1, h2, h3, h4⟩ := G.ok
  refine be (pe_call h4 (c.room.mono hj) (c.gl hg).1 h1 h2 h3 .nil (passes_no (Y := X)) pa_b (c.gl hg).2.1 he hpl) ?_
  rw [wp_bind] at q
  refine ha F ad σ H _ s (wp_mono (fun ds q vs H1 g1 r1 => ?_) (fun _ _ z => z) q)
  have s1 := s.grow g1
  by_cases hl : ds.length = nn
  · exact ⟨Ban F ρ ad, ds, s1.fo, hl, by rw [List.append_nil]; exact r1, wp_mono (fun d z v H' sm r => z v H' (g1.trans (Grow.same sm)) r) (fun _ _ z => z.elim) (wp_nx (E' := fun _ _ => False) q)⟩
  · rw [hm ds hl] at q; exact q.elim
/-- try: f(..), except C as n: a suite that leaves -/
theorem run_tryT0 [Calm wd] (c : Cd CX k wd N sc X) (W : NoW wd) {m : List D → R D} {rs : R (List D)} {hh : D → R (Out Empty Empty T)} {o : R (Out S B T)} {sl : Sl} {l : List (Str × Str)} (K : XcK X.prog X.w X.K X.mg X.base cn fl) (hl : l[c0]? = some (cn, fl)) (hgc : glB sc cn = true)
    (G : Df X.prog X.w X.K X.mg X.base (L2.CX X.prog X.w) j f (spE X.K (xcT X.mg l) nn m)) (hj : j ≤ k) (hg : glB sc f = true) (hm : ∀ ds, ds.length ≠ nn → m ds = bad)
    (hn : locB sc n = true) (hNn : N[i]? = some n) (hni : ρ[i]? = some sl) (hno : sl.own = false)
    (ha : ∀ pn xe, PassesOwn (model X.prog X.w) X.A X.env xe → EvA (X.tr pn xe) wd ρ (e :: es) rs)
    (hs : ∀ (C a dd : Addr) (oe : Obj) (pn : List (Addr × Obj)) (x : D), Caught X.K X.mg cn C dd oe fl → Run (X.suite a ((a, oe) :: pn)) wd.hot eE eE2 eT (ρ.set i (.e a (some (dd, fl, x)))) (b₀ :: suite) (hh x))
    (hr : Run X wd eS eB eT ρ rest o) (heT : ∀ (t : T) (i : Nat) (s : Sl), (eT t)[i]? = some s → s.own = false)
    (hsw : ∀ pn xe, swapsWith (.Call (.Name f pf) (e :: es) [] pc) none pa.line (X.tr pn xe).env = pure false := by exact fun _ _ => rfl)
    (he : starEach (e :: es) X.env = (false, eval e X.env) :: starEach es X.env := by rfl) (hpl : (backTo pc (starEach es X.env)).any (·.1) = false := by rfl) :
    Run X wd eS eB eT ρ (.Try [.Expr (.Call (.Name f pf) (e :: es) [] pc) pa] [.ExceptHandler (some (.Name cn np)) (some n) (b₀ :: suite) ph] [] [] pos :: rest) (rs.bind fun ds => tryR c0 (fun _ => o) (fun x => upE (hh x)) (m ds)) := by
  obtain ⟨C, fI, fd, h1, h2, h3, h4, h5, h6, h7, h8, h9⟩ := K.ok
  exact run_try0 (C := C) (cv := .ref C) (fl := fl) (c0 := c0) c W G.dn hj hg hm (xcT_of hl h1) h5 ⟨(c.gl hgc).1, (c.gl hgc).2.1, .inl h1⟩ hn hNn hni hno ha (fun a dd oe pn x hz hf => hs C a dd oe pn x ⟨h1, h3, h4, hz, hf⟩) hr heT hsw he hpl
theorem run_tryT1 [Calm wd] (c : Cd CX k wd N sc X) (W : NoW wd) {m : List D → R D} {rs : R (List D)} {hh : D → R (Out Empty Empty T)} {o : D → R (Out S B T)} {sl : Sl} {l : List (Str × Str)} {l0 : Nat} (K : XcK X.prog X.w X.K X.mg X.base cn fl) (hl : l[c0]? = some (cn, fl)) (hgc : glB sc cn = true)
    (G : Df X.prog X.w X.K X.mg X.base (L2.CX X.prog X.w) j f (spE X.K (xcT X.mg l) nn m)) (hj : j ≤ k) (hg : glB sc f = true) (hm : ∀ ds, ds.length ≠ nn → m ds = bad)
    (hy : lcB sc y = true) (hN : N[l0]? = some y) (hn : locB sc n = true) (hNn : N[i]? = some n) (hni : ρ[i]? = some sl) (hno : sl.own = false)
    (ha : ∀ pn xe, PassesOwn (model X.prog X.w) X.A X.env xe → EvA (X.tr pn xe) wd ρ (e :: es) rs)
    (hs : ∀ (C a dd : Addr) (oe : Obj) (pn : List (Addr × Obj)) (x : D), Caught X.K X.mg cn C dd oe fl → Run (X.suite a ((a, oe) :: pn)) wd.hot eE eE2 eT (ρ.set i (.e a (some (dd, fl, x)))) (b₀ :: suite) (hh x))
    (hr : ∀ d, Run X wd eS eB eT (ρ.set l0 (.d d)) rest (o d)) (heT : ∀ (t : T) (i : Nat) (s : Sl), (eT t)[i]? = some s → s.own = false)
    (hsw : ∀ pn xe, swapsWith (.Call (.Name f pf) (e :: es) [] pc) (some (.Name y py)) pa.line (X.tr pn xe).env = pure false := by exact fun _ _ => rfl)
    (he : starEach (e :: es) X.env = (false, eval e X.env) :: starEach es X.env := by rfl) (hpl : (backTo pc (starEach es X.env)).any (·.1) = false := by rfl) :
    Run X wd eS eB eT ρ (.Try [.Assign [.Name y py] (.Call (.Name f pf) (e :: es) [] pc) pa] [.ExceptHandler (some (.Name cn np)) (some n) (b₀ :: suite) ph] [] [] pos :: rest) (rs.bind fun ds => tryR c0 o (fun x => upE (hh x)) (m ds)) := by
  obtain ⟨C, fI, fd, h1, h2, h3, h4, h5, h6, h7, h8, h9⟩ := K.ok
  exact run_try1 (C := C) (cv := .ref C) (fl := fl) (c0 := c0) c W G.dn hj hg hm (xcT_of hl h1) h5 ⟨(c.gl hgc).1, (c.gl hgc).2.1, .inl h1⟩ hy hN hn hNn hni hno ha (fun a dd oe pn x hz hf => hs C a dd oe pn x ⟨h1, h3, h4, hz, hf⟩) hr heT hsw he hpl
/-- e.f in the suite -/
theorem ev_exfT {X0 : Cx} {oe : Obj} {C a dd : Addr} {pn : List (Addr × Obj)} {z : D} (c : Cw CX k wd N sc (X0.suite a ((a, oe) :: pn))) (h : Caught X0.K X0.mg cn C dd oe fl) (hv : visB sc x = true) (hN : N[i]? = some x) (hρ : ρ[i]? = some (.e a (some (dd, fl, z)))) : Ev (X0.suite a ((a, oe) :: pn)) wd ρ (.Attribute (.Name x p) fl pos) (R.ret z) :=
  ev_exf (cls := .none) rfl c h.T h.no h.z h.f hv hN hρ
theorem heT0 {T : Type} : ∀ (t : T) (i : Nat) (s : Sl), ((fun _ : T => ([] : List Sl)) t)[i]? = some s → s.own = false := fun t i s h => by simp at h
end
section
variable {P : Program} {w : World} {K : PySem.W.Frag} {mg : Str → Option Value} {h base : Heap} {x fl : Str}
theorem xck_mk (X : K.In h) (G : h.Ns mainGlobals mg) {C fI cc cd : Addr} {nm q : Str} {N : Addr} {bs bm : List Value} {sn : List Str} {sub : List Value} {ab : Bool} {col : Option Bool} {ddd : Option Addr} {k0 k1 k2 k3 k5 : Option Value} {oc1 oc2 oc3 doc pm ctv : Value} {od1 od2 od3 : Option Addr} {vs1 : Array Value} {sl1 sl2 sl3 : Array (Option Value)} {file : Str} {tf : Tok} {qual : Str} {st : Stmt} {msg : Str} {p0 p1 p2 p3 p4 p5 q1 q2 q3 q4 : Pos} {j : Nat}
    (xa : PySem.W.nsIn K mainGlobals x = some (some (.ref C))) (kC : PySem.W.keepIn K (.ref C) = true) (lC : K.lookup C = some (excClassObj nm q C N bs bm true sn sub ab col ddd k0 k1 k2 k3 k5 "ValueError.__new__")) (rv : PySem.HandSPX.refsVE bm = true)
    (sa : PySem.W.findIn K (.ref C) "__setattr__" = some (some (.builtin "object.__setattr__"))) (exC : PySem.W.subIn K (.ref C) (.type "BaseException") = some true) (tyC : PySem.W.typeIn K (.ref C) = some (.type "type"))
    (ga : PySem.W.findIn K (.ref C) "__getattribute__" = some (some (.builtin "BaseException.__getattribute__"))) (gg : PySem.W.findIn K (.ref C) "__getattr__" = some none) (hdC : PySem.W.hasDictIn K C = true) (fno : PySem.W.findIn K (.ref C) fl = some none) (self : PySem.W.subIn K (.ref C) (.ref C) = some true)
    (iC : PySem.W.findIn K (.ref C) "__init__" = some (some (.ref fI))) (tI : PySem.W.typeIn K (.ref fI) = some (.type "function")) (sup : PySem.W.ks_superIn K C C "__init__" = some (some (.builtin "ValueError.__init__"))) (isV : PySem.W.subIn K (.ref C) (.type "ValueError") = some true) (isC : PySem.W.mroIn K C (.ref C) = some true)
    (noA : PySem.W.nsIn K cStatics "thirdparty.any" = some none) (lc : K.lookup cd = some ⟨oc1, od1, .fields vs1, sl1⟩) (hvs : vs1[2]? = some (.str file tf)) (hfile : ((P.main.file : Str) == file) = true) (lcc : K.lookup cc = some ⟨oc2, od2, .cell (some (.ref C)), sl2⟩)
    (lI : K.lookup fI = some ⟨oc3, od3, .func ((NdefX.NF.mk "__init__" qual (defArgs st) (defBody st) (defScope st) [(("__class__" : Str), cc)] cd).fd doc pm ctv), sl3⟩) (cdI : PySem.W.codeIn K (.ref cd) qual = true)
    (zs : PySem.W.nsIn K mainGlobals "super" = some none) (htop : (P.main.scope.names.lookup ("super" : Str)).isSome = false)
    (hN : NdefX.nscB [("self" : Str), fl, "__class__"] [("self" : Str), fl] [("__class__" : Str)] (defScope st) = true)
    (hbody : defBody st = [.Expr (.Call (.Attribute (.Call (.Name "super" p0) [] [] p1) "__init__" p2) [.Constant (.str msg) j p3] [] p4) p5, .Assign [.Attribute (.Name "self" q1) fl q2] (.Name fl q3) q4])
    (hks : (defScope st).names.lookup ("super" : Str) = some .globalImplicit) (hdb : (fl == ("__debug__" : Str)) = false) (hdc : (fl == ("__classdict__" : Str)) = false)
    (hp : ∃ ar, ((defArgs st).posonlyargs ++ (defArgs st).args).head? = some ar ∧ ar.arg = "self") (hpos : (p2.endLine == p4.line) = true)
    (hb : ∀ (doc pm ctv : Value) (us : List Value), us.length = 2 → bindArgs ((NdefX.NF.mk "__init__" qual (defArgs st) (defBody st) (defScope st) [(("__class__" : Str), cc)] cd).fd doc pm ctv) ⟨us, []⟩ = pure (([("self" : Str), fl] : List Str).zip us)) :
    XcK P w K mg base x fl := by
  have T : OexC K C := ⟨⟨_, _, _, _, _, _, _, _, _, _, _, _, _, _, _, lC, rv⟩, sa, exC, tyC, kC⟩
  have hc : ∃ cd, PySem.W.clsIn K C = some cd := by
    obtain ⟨cd, hc, _⟩ := PySem.W.any_some hdC
    exact ⟨cd, hc⟩
  obtain ⟨fd, hbi, F⟩ := sup_run (P := P) (w := w) (mg := mg) (base := base) (k := 0) (F := NdefX.NF.mk "__init__" qual (defArgs st) (defBody st) (defScope st) [(("__class__" : Str), cc)] cd) ⟨T, hc, sup, isV, isC, noA, ⟨_, _, _, _, _, _, lc, hvs, hfile⟩, ⟨_, _, _, lcc⟩, fno, ⟨_, _, _, _, _, _, lI⟩, cdI, rfl⟩ (NdefX.nscope_by hN) hbody hks hdb hdc hp htop (PySem.W.mg_none_of X G zs) rfl hpos hb
  exact ⟨C, fI, fd, PySem.W.mg_of X G xa, T, ⟨ga, gg, exC, hdC⟩, fno, PySem.W.exm_ref exC hdC tyC self, iC, tI, hbi, F⟩
end
/-! ### isinstance(e, B), e the exception that a suite holds -/
section
variable {K : PySem.W.Frag} {mg : Str → Option Value} {h : Heap} {x y : Str}
/-- B is a class above the error's -/
structure XiK (K : PySem.W.Frag) (mg : Str → Option Value) (x y : Str) : Prop where
  ok : ∃ C B : Addr, mg x = some (.ref C) ∧ mg y = some (.ref B) ∧ PySem.W.kitOne K (.ref C) (.ref B) = some true ∧ (PySem.W.clsIn K C).isSome = true ∧ PySem.W.findIn K (.ref C) "__class__" = some (some (.builtin "object.__class__")) ∧
    PySem.W.specialIn K (.builtin "object.__class__") "__get__" = some (some (.builtin "getset_descriptor.__get__")) ∧ PySem.W.takesIn K (.builtin "object.__class__") = some true ∧ PySem.W.mroIn K C (.type "object") = some true
theorem xik_mk (X : K.In h) (G : h.Ns mainGlobals mg) {C B : Addr} (xa : PySem.W.nsIn K mainGlobals x = some (some (.ref C))) (ya : PySem.W.nsIn K mainGlobals y = some (some (.ref B))) (hd : PySem.W.hasDictIn K C = true) (hdB : PySem.W.hasDictIn K B = true) (tyB : PySem.W.typeIn K (.ref B) = some (.type "type")) (su : PySem.W.subIn K (.ref C) (.ref B) = some true)
    (hc : PySem.W.findIn K (.ref C) "__class__" = some (some (.builtin "object.__class__"))) (hs : PySem.W.specialIn K (.builtin "object.__class__") "__get__" = some (some (.builtin "getset_descriptor.__get__"))) (ht : PySem.W.takesIn K (.builtin "object.__class__") = some true) (hm : PySem.W.mroIn K C (.type "object") = some true) : XiK K mg x y := by
  obtain ⟨cB, hB, _⟩ := PySem.W.any_some hdB
  obtain ⟨cC, hC, _⟩ := PySem.W.any_some hd
  refine ⟨C, B, PySem.W.mg_of X G xa, PySem.W.mg_of X G ya, ?_, by rw [hC]; rfl, hc, hs, ht, hm⟩
  unfold PySem.W.kitOne
  split
  · rfl
  · show (if ((PySem.W.clsIn K B).isSome && PySem.W.typeIn K (.ref B) == some (.type "type")) = true then PySem.W.subIn K (.ref C) (.ref B) else none) = some true
    rw [if_pos (by rw [hB, tyB] <;> rfl)]
    exact su
end
section
variable {k : Nat} {wd : Wd} {N : List Str} {sc : Scope} {ρ : List Sl} {CX : CXT} {X0 : Cx} {oe : Obj} {C a dd : Addr} {pn : List (Addr × Obj)} {x y cn fl : Str} {z : D} {i : Nat} {pos p p1 p2 : Pos}
/-- isinstance(e, B) of an exception with its dict -/
def rIsD (K : PySem.W.Frag) (C a dd : Addr) : List V → Hp → VK → Prop := fun xs H Q => ∃ (c : V) (cv : Value) (b : Bool) (fs : List (Str × V)), xs = [.ref a, c] ∧ (∀ u, RelV c u → u = cv) ∧ PySem.W.kitOne K (.ref C) cv = some b ∧ H dd = some (.xd fs) ∧ Q (.bl b) H
theorem call_isD {X : Cx} (T : XfC X.K C) (hc : (PySem.W.clsIn X.K C).isSome = true) (h1 : PySem.W.findIn X.K (.ref C) "__class__" = some (some (.builtin "object.__class__"))) (h2 : PySem.W.specialIn X.K (.builtin "object.__class__") "__get__" = some (some (.builtin "getset_descriptor.__get__"))) (h3 : PySem.W.takesIn X.K (.builtin "object.__class__") = some true)
    (h4 : PySem.W.mroIn X.K C (.type "object") = some true) (hz : Zc (.ref C) (some dd) oe) (hf : ∃ vs, oe.data = .fields vs) : CallR (X.suite a ((a, oe) :: pn)) (.builtin "isinstance") (rIsD X.K C a dd) := by
  intro pins s σ H xs us Q I r h
  obtain ⟨c, cv, b, fs, rfl, hcv, e, ed, q⟩ := h
  cases r with
  | cons rx rr =>
    cases rr with
    | cons rt rr =>
      cases rr; cases rx
      have ec := hcv _ rt
      subst ec
      obtain ⟨hget, _⟩ := I.pin (a, oe) (List.mem_append.mpr (.inl List.mem_cons_self))
      obtain ⟨vs, hv⟩ := hf
      obtain ⟨mA, hns, _⟩ := (show ObjOk X.prog X.w H s.heap dd (.xd fs) from I.hok dd _ ed)
      obtain ⟨od, ho, _⟩ := lookIn_ns hns
      have J : PySem.W.InstAt s.heap a oe C (some od) := ⟨hget, hz.1, by unfold PySem.W.notCls; rw [hv] <;> rfl, by rw [hz.2]; exact ho⟩
      exact PySem.W.kia_one (PySem.W.kitx_exc hc T.ga T.gg T.exC h1 h2 h3 h4) I.kIn J e (fun z => nomatch z) fun tk => ⟨.bl b, H, I.kept (t' := tk) fun _ _ z => z, rfl, q⟩
theorem ev_isiE (c : Cw CX k wd N sc (X0.suite a ((a, oe) :: pn))) (G : XiK X0.K X0.mg cn y) (h : Caught X0.K X0.mg cn C dd oe fl) (hg : glB sc "isinstance" = true) (hm : X0.mg "isinstance" = none) (hv : bootBuiltins "isinstance" = some (.builtin "isinstance")) (gy : glB sc y = true) (hx : visB sc x = true) (hN : N[i]? = some x) (hρ : ρ[i]? = some (.e a (some (dd, fl, z)))) :
    Ev (X0.suite a ((a, oe) :: pn)) wd ρ (.Call (.Name "isinstance" p) [.Name x p1, .Name y p2] [] pos) (R.ret (.bool true)) := fun F ad σ H Q s q => by
  obtain ⟨C', B, g1, g2, g3, g4, g5, g6, g7, g8⟩ := G.ok
  have eC : C' = C := by
    have := g1.symm.trans h.m
    cases this
    rfl
  subst eC
  obtain ⟨v1, v2, v3⟩ := c.vis hx
  obtain ⟨e1, hh⟩ := s.sl i _ hρ
  obtain ⟨_, _, v, h3, _⟩ := hh dd fl z rfl
  refine be (pe_callB (call_isD (X := X0) h.T g4 g5 g6 g7 g8 h.z h.f) (c.gl hg).1 hm hv (pa_cons (pe_var (X := X0.suite a ((a, oe) :: pn)) (i := i) (by rw [c.hN]; exact hN) v1 v2 v3) (pa_cons (pe_glob (X := X0.suite a ((a, oe) :: pn)) (v := .ref B) (c.gl gy).1 g2 rfl (c.gl gy).2.1) pa_nil rfl) rfl) (c.gl hg).2.2 (c.gl hg).2.1 rfl rfl) ?_
  exact ⟨_, e1, .ref B, .ref B, true, _, rfl, fun u r => r, g3, h3, q _ H (Grow.refl _ _) (.bl _)⟩
end
/-! ### x = [elt for y in iter if t], x owned -/
section
variable {CX : CXT} {k : Nat} {wd : Wd} {N : List Str} {sc : Scope} {X : Cx} {ρ : List Sl} {S B T : Type} {eS : S → List Sl} {eB : B → List Sl} {eT : T → List Sl} {elt iter : Expr} {rest : List Stmt} {pos p py : Pos}
theorem run_setCOif [Calm wd] (c : Cd CX k wd N sc X) {scope : Scope} {i j : Nat} {x y : Str} {spos : Pos} {t : Expr} {cf : D → R Bool} {f : D → R D} {r : R (List D)} {o : List D → R (Out S B T)} (hx : swB sc scope x p.line pos.line = true) (hN : N[i]? = some x) (hp : wd.pin i = false) (hok : blkC N sc scope [(y, j)] = true) (hNy : N[j]? = some y) (hy : tgB scope sc y = true) {sl : Sl} (hno : ρ[j]? = some sl) (hsl : sl.own = false)
    (hi : EvJ X wd ρ (.Name y py) iter r) (ht : ∀ d s0 H0 C cl fp, EvT (X.blk s0 H0 scope (compEnvC scope cl C X.env) fp) wd.calm (ρ.set j (.d d)) t (cf d)) (hel : ∀ d s0 H0 C cl fp, Ev (X.blk s0 H0 scope (compEnvC scope cl C X.env) fp) wd.calm (ρ.set j (.d d)) elt (f d)) (hr : ∀ ds, Run X wd eS eB eT (ρ.set i (.l ds)) rest (o ds)) (hs : ∀ x, foldedSetIterable iter X.env x = pure x := by exact fun _ => rfl) :
    Run X wd eS eB eT ρ (.Assign [.Name x p] (.ListComp elt [⟨.Name y py, iter, [t], 0⟩] scope pos) spos :: rest) ((r.bind fun ds => compR cf f ds []).bind o) :=
  setO_core (ps_comp c (own := [(y, j)]) hx hN hok (blkg_name c.toCw hNy hy) (Nat.le_refl _) hs)
    (fun F ad σ H Q s q => lc_read hi (gs_name1 ρ) (fun z hz => by simp at hz; subst hz; exact not_own hno hsl) ⟨fun d e => (by cases e), fun d ρ' e => (by cases e; exact hel d), fun d ρ' e => (by cases e; exact ht d)⟩ F ad σ H Q s q) hp hr
end
end Pu
/-! Pxz: own errors without a field; defs that raise, their argument a dict. -/
namespace Pu
open PySem PySem.Spec PyProof.Rows L2 R
/-! ### own errors without a field -/
structure XcB (K : PySem.W.Frag) (mg : Str → Option Value) (x : Str) : Prop where
  ok : ∃ C : Addr, mg x = some (.ref C) ∧ PySem.W.excIn K C [.type "ValueError", .type "Exception", .type "BaseException", .type "object"] "ValueError.__new__" = true ∧ PySem.W.keepIn K (.ref C) = true ∧
    PySem.W.typeIn K (.ref C) = some (.type "type") ∧ PySem.W.exmOne K (.ref C) (.ref C) = some true ∧ ExcC K C
def xcB (mg : Str → Option Value) (l : List Str) : Nat → Value × Option Str := fun n => match l[n]? with
  | some x => (match mg x with
    | some v => (v, none)
    | none => (.none, none))
  | none => (.none, none)
theorem xcB_of {mg : Str → Option Value} {l : List Str} {n : Nat} {x : Str} {v : Value} (h : l[n]? = some x) (hm : mg x = some v) : xcB mg l n = (v, none) := by unfold xcB; rw [h]; simp only [hm]
theorem xcb_mk {K : PySem.W.Frag} {mg : Str → Option Value} {h : Heap} {x : Str} (X : K.In h) (G : h.Ns mainGlobals mg) {C : Addr} (xa : PySem.W.nsIn K mainGlobals x = some (some (.ref C)))
    (ex : PySem.W.excIn K C [.type "ValueError", .type "Exception", .type "BaseException", .type "object"] "ValueError.__new__" = true) (kC : PySem.W.keepIn K (.ref C) = true) (tyC : PySem.W.typeIn K (.ref C) = some (.type "type"))
    (self : PySem.W.subIn K (.ref C) (.ref C) = some true) (ga : PySem.W.findIn K (.ref C) "__getattribute__" = some (some (.builtin "BaseException.__getattribute__"))) (gg : PySem.W.findIn K (.ref C) "__getattr__" = some none)
    (exC : PySem.W.subIn K (.ref C) (.type "BaseException") = some true) (hdC : PySem.W.hasDictIn K C = true) (ha : PySem.W.findIn K (.ref C) "__class__" = some (some (.builtin "object.__class__")))
    (hn : PySem.W.specialIn K (.builtin "object.__class__") "__get__" = some (some (.builtin "getset_descriptor.__get__"))) (ht : PySem.W.takesIn K (.builtin "object.__class__") = some true) (hm : PySem.W.mroIn K C (.type "object") = some true) : XcB K mg x :=
  ⟨C, PySem.W.mg_of X G xa, ex, kC, tyC, PySem.W.exm_ref exC hdC tyC self, ⟨ga, gg, exC, hdC, ha, hn, ht, hm⟩⟩
section
variable {k j : Nat} {wd : Wd} {N : List Str} {sc : Scope} {X : Cx} {ρ : List Sl} {S B T : Type} {eS : S → List Sl} {eB : B → List Sl} {eT : T → List Sl} {rest : List Stmt} {pos p p2 pos2 : Pos} {x m : Str} {jj : Nat}
/-- raise C('..') -/
theorem run_raiseB [Calm wd] (c : Ce k wd N sc X) (G : XcB X.K X.mg x) {l : List Str} {c0 : Nat} (hw : wd.xc = xcB X.mg l) (hl : l[c0]? = some x) (hg : glB sc x = true) :
    Run X wd eS eB eT ρ (.Raise (some (.Call (.Name x p) [.Constant (.str m) jj p2] [] pos)) none pos2 :: rest) (R.exc c0 .none) := fun F ad σ H Dn s q => by
  obtain ⟨C, h1, h2, h3, h4, h5, h6⟩ := G.ok
  refine bss (pss_cons (ps_raise c.calm c.tk (pmk_own PySem.F.excBase_ValueError h2 h1 h3 (raises_own h6.hs h4) (c.gl hg).1 (c.gl hg).2.1)) pss_b) ?_
  have hx : wd.xc c0 = (.ref C, none) := by rw [hw]; exact xcB_of hl h1
  exact q (.ref C) none ad ρ σ H .refl s ⟨by rw [hx], by rw [hx]⟩
end
/-! ### a def that raises, its argument a dict by ints and texts -/
def spBE (K : PySem.W.Frag) (xc : Nat → Value × Option Str) (m : List (Key × D) → R D) : Sp := fun vs H Q E => ∃ (B : Addr → Prop) (a : Addr) (kvs : List (Key × D)), Fo K H B ∧ vs = [.ref a] ∧ B a ∧ HasCt K B H a (.k kvs) ∧
  (m kvs).wp (fun d => ∀ v H', Same H H' → Rep K B H' v d → Q v H') fun c x => ∀ C dx H', Same H H' → XR K xc B H' c x C dx → E C dx H'
theorem slotsB_own {c : Ct} {n i : Nat} : ¬ Own (.b c :: List.replicate n .no) i := by
  rintro ⟨s, e, q⟩
  match i, e with
  | 0, e => cases e; cases q
  | i + 1, e =>
    rw [List.getElem?_cons_succ] at e
    rw [rep_no e] at q
    cases q
section
variable {P : Program} {w : World} {K : PySem.W.Frag} {mg : Str → Option Value} {base : Heap} {N : List Str} {x y : Str} {st : Stmt} {k : Nat} {xc : Nat → Value × Option Str}
theorem df_ofBE (A : At K mg x st [y]) (S : FnScope N [y] (defScope st)) {m : List (Key × D) → R D} {T : Type} {eT : T → List Sl} {o : List (Key × D) → R (Out Unit Empty T)}
    (hm : ∀ kvs, m kvs = endR0 (o kvs)) {eN : Unit → List Sl} {eB : Empty → List Sl}
    (hrun : ∀ (X : Cx) (E : XK), Ce k (wdE E xc) N (defScope st) X → X.prog = P → X.w = w → X.K = K → X.mg = mg → X.base = base → ∀ kvs, Run X (wdE E xc) eN eB eT (.b (.k kvs) :: List.replicate (N.length - 1) .no) (defBody st) (o kvs)) :
    Df P w K mg base (L2.CX P w) (k + 1) x (spBE K xc m) := by
  obtain ⟨f, fd, h1, h2, h3, F⟩ := A.ok
  obtain ⟨oc, od, kV, doc, pm, an, cdv, ct, osl, rfl, lk, hcd⟩ := F.ex
  refine ⟨f, _, _, h1, h2, h3, fn_of lk hcd S (fun vs H Q E h => ?_) (fun A outer s H vs Q E hr h => ?_)⟩
  · obtain ⟨B, a, kvs, _, rfl, _⟩ := h
    rfl
  · obtain ⟨B, a, kvs, nb, rfl, ba, hc, q⟩ := h
    refine ⟨_, pss_b, ?_⟩
    have hN : 1 ≤ N.length := by have := congrArg List.length S.pre; rw [List.length_take] at this; simp only [List.length_cons, List.length_nil] at this; omega
    have st0 : StOk K none B (.b (.k kvs) :: List.replicate (N.length - 1) .no) (L2.start N [.ref a]) H fun _ => 0 := by
      refine ⟨?_, fun i j o => absurd o slotsB_own, fun i o => absurd o slotsB_own, nb.b, fun a l e => (by cases e), nb.t, fun i s e => ?_⟩
      · unfold L2.start
        simp only [List.length_append, List.length_map, List.length_replicate, List.length_cons, List.length_nil]
        omega
      · have hb : ∀ b, Ban B (.b (.k kvs) :: List.replicate (N.length - 1) .no) (fun _ => 0) b → B b := by
          rintro b (b | ⟨j, o, _⟩)
          · exact b
          · exact absurd o slotsB_own
        match i, e with
        | 0, e =>
          cases e
          exact ⟨a, by unfold L2.start; rfl, ba, has_none, hc.weak hb⟩
        | i + 1, e =>
          rw [List.getElem?_cons_succ] at e
          rw [rep_no e]
          trivial
    rw [hm kvs] at q
    unfold endR0 at q
    rw [wp_bind] at q
    have tk : Takes (cxOf (L2.CX P w) P w K mg base N x (defScope st) f cdv A outer s H E) (fun c d _ H => (wdE E xc).W c d H) := takes_of rfl rfl rfl rfl
    refine hrun (cxOf (L2.CX P w) P w K mg base N x (defScope st) f cdv A outer s H E) E ⟨⟨⟨rfl, rfl, S.nd, fun _ => rfl, un_of hr, fun _ => hr, passes_of rfl, passes_call tk fun _ _ _ _ h => h⟩, fun _ => rfl, S.kind, rfl, rfl⟩, tk⟩ rfl rfl rfl rfl rfl kvs B (fun _ => 0) _ H _ st0 (wp_mono (fun z q => ?_) (fun c x z => ?_) q)
    · cases z with
      | nx u => exact fun ad' σ' H' a s' => q _ H' (fun b o e => (a.keep b o e has_none fun ⟨i, o, _⟩ => slotsB_own o).1) .non
      | bk b => exact b.elim
      | ct b => exact b.elim
      | rt d t => exact fun v ad' ρ' σ' H' a s' _ r => q v H' (fun b o e => (a.keep b o e has_none fun ⟨i, o, _⟩ => slotsB_own o).1) ((r.rep rfl).weak fun b => .inl)
    · intro C dx ad' ρ' σ' H' a s' xr
      exact z C dx H' (fun b o e => (a.keep b o e has_none fun ⟨i, o, _⟩ => slotsB_own o).1) (XR.weak (show XR K xc (Ban B ρ' ad') H' c x C dx from xr) fun b => .inl)
end
section
variable {CX : CXT} {k j : Nat} {wd : Wd} {N : List Str} {sc : Scope} {X : Cx} {ρ : List Sl} {es : List Expr} {e : Expr} {pos p py : Pos} {f x y : Str} {i : Nat} {m : List Ar → R D} {M : R D} {sl : Sl}
/-- e is a dict by ints and texts, to be read -/
def EvD (X : Cx) (wd : Wd) (ρ : List Sl) (e : Expr) (r : R (List (Key × D))) : Prop := ∀ (F : Addr → Prop) (ad : Nat → Addr) (σ : L2.St) (H : Hp) (Q : VK), StOk X.K wd.dr F ρ σ H ad →
  r.wp (fun kvs => ∀ a (B : Addr → Prop) H', Grow wd.dr H H' → (∀ b, Ban F ρ ad b → B b) → Fo X.K H' B → B a → HasCt X.K B H' a (.k kvs) → Q (.ref a) H') (XP X wd F ρ ad H) → BE X e σ H Q
theorem evd_var (c : Cw CX k wd N sc X) {kvs : List (Key × D)} (hv : visB sc x = true) (hN : N[i]? = some x) (hρ : ρ[i]? = some sl) (hc : sl.ct = some (.k kvs)) : EvD X wd ρ (.Name x p) (R.ret kvs) := fun F ad σ H Q s q => by
  obtain ⟨v1, v2, v3⟩ := c.vis hv
  obtain ⟨a, ea, h, ba, _⟩ := ct_at s hρ hc
  exact be (pe_var (i := i) (by rw [c.hN]; exact hN) v1 v2 v3) ⟨_, ea, q a (Ban F ρ ad) H (Grow.refl _ _) (fun _ z => z) s.fo ba h⟩
theorem evd_new {r : R (List (Key × D))} (h : EvC X wd ρ e Ct.k r) : EvD X wd ρ e r := fun F ad σ H Q s q =>
  h F ad σ H Q s (wp_mono (fun kvs q a H' g hn hc => q a (fun b => Ban F ρ ad b ∨ b = a) H' g (fun _ z => .inl z) (by
    refine ⟨?_, (s.grow g).tb⟩
    rintro b (z | rfl)
    · exact (s.grow g).banned z
    · obtain ⟨o, e, nt⟩ := hasCt_obj hc
      exact ⟨o, e, nt⟩) (.inr rfl) hc) (fun _ _ z => z) q)
theorem evc_dict0 : EvC X wd ρ (.Dict [] [] pos) Ct.k (R.ret []) := fun F ad σ H Q s q =>
  be pe_dnewK fun p hp => q p _ (Grow.same (same_upd hp)) hp ⟨[], upd_same, .nil⟩
/-- a call that hands back a new dict -/
theorem evc_callK [Calm wd] (c : Cw CX k wd N sc X) (W : NoW wd) (G : Df X.prog X.w X.K X.mg X.base CX j f (spX X.K true id (fun _ => []) m)) (hj : j ≤ k) (hg : glB sc f = true) (hcs : CallS X wd ρ [] [] [] (e :: es) M m)
    (he : starEach (e :: es) X.env = (false, eval e X.env) :: starEach es X.env := by rfl) (hpl : (backTo pos (starEach es X.env)).any (·.1) = false := by rfl) : EvC X wd ρ (.Call (.Name f p) (e :: es) [] pos) Ct.k (M.bind fun d => asK d R.ret) := fun F ad σ H Q s q => by
  rw [wp_bind] at q
  refine call_read c W G hj hg (I := []) (by simp) List.nodup_nil hcs he hpl s (wp_mono (fun d q v H' g ou rt => ?_) (fun _ _ z => W.xp z) q)
  have g := GrowO.nil g
  unfold asK at q
  cases hd : decK d with
  | none => rw [hd] at q; exact q.elim
  | some kvs =>
    rw [hd] at q
    obtain ⟨a, ct, rfl, e2, n1, n2, n3, hc⟩ := ret_one rt (decK_is hd)
    have e2 : d = encC ct := e2
    rw [e2] at hd
    obtain rfl := decK_enc hd
    exact q a H' g n3 hc
/-- a call of such a def, where nothing is raised -/
theorem ev_callBQ [Calm wd] (c : Cw CX k wd N sc X) {xc : Nat → Value × Option Str} {m : List (Key × D) → R D} {r : R (List (Key × D))} (G : Df X.prog X.w X.K X.mg X.base (L2.CX X.prog X.w) j f (spBE X.K xc m)) (hj : j ≤ k) (hg : glB sc f = true) (ha : EvD X wd ρ e r)
    (he : starEach (e :: []) X.env = (false, eval e X.env) :: starEach [] X.env := by rfl) (hpl : (backTo pos (starEach [] X.env)).any (·.1) = false := by rfl) : Ev X wd ρ (.Call (.Name f p) [e] [] pos) (r.bind fun kvs => nx (m kvs)) := fun F ad σ H Q s q => by
  obtain ⟨fa, fd, ps, h1, h2, h3, h4⟩ := G.ok
  refine be (pe_call h4 (c.room.mono hj) (c.gl hg).1 h1 h2 h3 .nil (passes_no (Y := X)) (pa_cons pe_b pa_nil he) (c.gl hg).2.1 he hpl) ?_
  rw [wp_bind] at q
  refine ha F ad σ H _ s (wp_mono (fun kvs q a B H1 g1 hB nb ba hc => ?_) (fun _ _ z => z) q)
  exact ⟨B, a, kvs, nb, by rw [List.append_nil], ba, hc, wp_mono (fun d z v H' sm r => z v H' (g1.trans (Grow.same sm)) (r.weak hB)) (fun _ _ (z : False) => z.elim) (wp_nx q)⟩
end
/-! ### try: a call that may raise; what follows it leaves. except C as n: a suite that may come to its end -/
def seqE {S1 S B T : Type} (r : R (Out S1 Empty T)) (o : S1 → R (Out S B T)) : R (Out S B T) := r.bind fun z => match z with
  | .nx s => o s
  | .bk b => b.elim
  | .ct b => b.elim
  | .rt d t => R.ret (.rt d t)
section
variable {k : Nat} {wd : Wd} {N : List Str} {sc : Scope} {X : Cx} {S S1 B T : Type} {eS : S → List Sl} {eS1 : S1 → List Sl} {eB : B → List Sl} {eT : T → List Sl} {eE eE2 eE3 : Empty → List Sl} {ρ : List Sl} {e : Expr} {rest suite body2 : List Stmt} {b₀ : Stmt} {pos pa pc pf np ph : Pos} {f n cn : Str} {i j c0 : Nat}
theorem run_tryB [Calm wd] (c : Cd CX0 k wd N sc X) (W : NoW wd) {l : List Str} {m : List (Key × D) → R D} {rk : R (List (Key × D))} {ob : R (Out Empty Empty T)} {hh : R (Out S1 Empty T)} {o : S1 → R (Out S B T)} {sl : Sl} (K : XcB X.K X.mg cn) (hl : l[c0]? = some cn) (hgc : glB sc cn = true)
    (G : Df X.prog X.w X.K X.mg X.base (L2.CX X.prog X.w) j f (spBE X.K (xcB X.mg l) m)) (hj : j ≤ k) (hg : glB sc f = true)
    (hn : locB sc n = true) (hNn : N[i]? = some n) (hni : ρ[i]? = some sl) (hno : sl.own = false)
    (ha : ∀ pn xe, PassesOwn (model X.prog X.w) X.A X.env xe → EvD (X.tr pn xe) wd ρ e rk)
    (hb2 : ∀ pn xe, PassesOwn (model X.prog X.w) X.A X.env xe → Run (X.tr pn xe) wd eE eE2 eT ρ body2 ob)
    (hs : ∀ (C a : Addr) (oe : Obj) (pn : List (Addr × Obj)), X.mg cn = some (.ref C) → ExcC X.K C → Zc (.ref C) none oe → (∃ vs, oe.data = .fields vs) → Run (X.suite a ((a, oe) :: pn)) wd.hot eS1 eE3 eT (ρ.set i (.e a none)) (b₀ :: suite) hh)
    (hr : ∀ s, Run X wd eS eB eT (wipeS (eS1 s) [i]) rest (o s))
    (hsw : ∀ pn xe, swapsWith (.Call (.Name f pf) [e] [] pc) none pa.line (X.tr pn xe).env = pure false := by exact fun _ _ => rfl)
    (he : starEach (e :: []) X.env = (false, eval e X.env) :: starEach [] X.env := by rfl) (hpl : (backTo pc (starEach [] X.env)).any (·.1) = false := by rfl) :
    Run X wd eS eB eT ρ (.Try (.Expr (.Call (.Name f pf) [e] [] pc) pa :: body2) [.ExceptHandler (some (.Name cn np)) (some n) (b₀ :: suite) ph] [] [] pos :: rest) (rk.bind fun kvs => tryR c0 (fun _ => upE ob) (fun _ => seqE hh o) (m kvs)) := fun F ad σ H Dn st q => by
  obtain ⟨fa, fd, ps, h1, h2, h3, h4⟩ := G.ok
  obtain ⟨C, x1, x2, x3, x4, x5, x6⟩ := K.ok
  have hxc : xcB X.mg l c0 = (.ref C, none) := xcB_of hl x1
  have hln : X.env.kindOf n = some .local := by
    show X.env.scope.names.lookup n = _
    rw [c.hs]
    exact locB_eq hn
  let tb : WX → TS := fun W D σ H => ∀ pn xe, Takes (X.tr pn xe) W → PassesOwn (model X.prog X.w) X.A X.env xe → BSs (X.tr pn xe) (.Expr (.Call (.Name f pf) [e] [] pc) pa :: body2) D σ H
  let ts : Addr → Value → Option Addr → TS := fun a cls d D σ H => ∀ (oe : Obj) (pn : List (Addr × Obj)), Zc cls d oe → (∃ vs, oe.data = .fields vs) → BSs (X.suite a ((a, oe) :: pn)) (b₀ :: suite) D σ H
  refine bss (pss_cons (ps_try_as (c := .ref C) (Wout := fun _ _ _ _ => False) (tb := tb) (ts := ts) c.stk c.frm c.nd' (c.at hNn) hln ⟨(c.gl hgc).1, (c.gl hgc).2.1, .inl x1⟩ (fun u s' x => by
    obtain ⟨_, _, _, _, _, _, _, _, _, _, _, _, _, _, _, _, w⟩ := x
    exact w.elim) (fun W pn xe tk po => ⟨fun pins s σ H D I h => h pn xe tk po pins s I⟩) fun a oe cls d pn hz hf => ⟨fun pins s σ H D I h => h oe pn hz hf pins s I⟩) pss_b) ?_
  intro pn xe tk po
  rw [wp_bind] at q
  refine bss (pss_cons (ps_expr (X := X.tr pn xe) (pe_callS (X := X.tr pn xe) h4 (c.room.mono hj) (c.gl hg).1 h1 h2 h3 (fun σ => passAt tk σ) (pa_cons pe_b pa_nil he) (c.gl hg).2.1 he hpl) (hsw pn xe)) pss_b) ?_
  refine ha pn xe po F ad σ H _ st (wp_mono (fun kvs q a0 B0 H1 g1 hB nb ba hc => ?_) (fun _ _ z => (W.xp (z.xp st)).elim) q)
  refine ⟨B0, a0, kvs, nb, rfl, ba, hc, wp_mono (fun d q v H' sm r => ?_) (fun c' x q Cx dx H' sm xr => ?_) (wp_try q)⟩
  · have g2 : Grow wd.dr H H' := g1.trans (Grow.same sm)
    unfold upE at q
    rw [wp_bind] at q
    have q := wp_mono (fun o2 q => q) (fun _ _ z => z) q
    refine hb2 pn xe po F ad σ H' _ (st.grow g2) (wp_mono (fun o2 q => ?_) (fun _ _ z => (W.xp (z.xp st)).elim) q)
    cases o2 with
    | nx s => exact s.elim
    | bk s => exact s.elim
    | ct s => exact s.elim
    | rt d t => exact OutOk.adv (X := X) (eS := eS) (eB := eB) (o := .rt d t) (.grow g2) q
  · obtain ⟨ec, q9⟩ := q
    subst ec
    obtain ⟨e1, e2⟩ := xr
    rw [hxc] at e1 e2
    have e1 : Cx = .ref C := e1
    have e2 : dx = none := e2
    subst e1 e2
    refine ⟨true, x5, fun _ a ha0 oe pn2 hz hf => ?_, fun z => by cases z⟩
    have g2 : Grow wd.dr H H' := g1.trans (Grow.same sm)
    have s2 := st.grow g2
    have s4 : StOk X.K wd.dr F (ρ.set i (.e a none)) (σ.set i (some (.ref a))) H' ad := s2.setE rfl ⟨rfl, fun dd' f' y' ee => by cases ee⟩
    have a4 : Adv wd ρ ad H (ρ.set i (.e a none)) ad H' := .trans (.grow g2) (.less fun j oj => own_setE rfl oj)
    refine hs C a oe pn2 x1 x6 hz hf F ad _ H' _ s4 ?_
    unfold seqE at q9
    rw [wp_bind] at q9
    refine wp_mono (fun o2 q => ?_) (fun _ _ z => (W.xp (z.xp st)).elim) q9
    cases o2 with
    | bk s => exact s.elim
    | ct s => exact s.elim
    | nx s =>
      intro ad' σ' H2 adv st'
      have sw := st'.wiped (vs := [i])
      have aw : Adv wd ρ ad H (wipeS (eS1 s) [i]) ad' H2 := .trans a4 (.trans ⟨adv.keep, adv.draw, adv.pin⟩ (.less fun j oj => own_setE (s := .no) rfl oj))
      exact hr s F ad' _ H2 Dn sw (wp_adv aw q)
    | rt d t =>
      have q : OutOk X wd eS eB eT F ρ ad H Dn (.rt d t) := q
      intro v ad' ρ' σ' H2 adv st' ht ret
      exact OutOk.adv (X := X) (eS := eS) (eB := eB) (o := .rt d t) a4 q v ad' ρ' σ' H2 ⟨adv.keep, adv.draw, adv.pin⟩ st' ht ret
/-- isinstance(e, B), e without a field -/
theorem ev_isiB {CX : CXT} {X0 : Cx} {oe : Obj} {C a : Addr} {pn : List (Addr × Obj)} {x y : Str} {p p1 p2 : Pos} (c : Cw CX k wd N sc (X0.suite a ((a, oe) :: pn))) (G : XiK X0.K X0.mg cn y) (hm0 : X0.mg cn = some (.ref C)) (hE : ExcC X0.K C) (hz : Zc (.ref C) none oe) (hf : ∃ vs, oe.data = .fields vs)
    (hg : glB sc "isinstance" = true) (hm : X0.mg "isinstance" = none) (hv : bootBuiltins "isinstance" = some (.builtin "isinstance")) (gy : glB sc y = true) (hx : visB sc x = true) (hN : N[i]? = some x) (hρ : ρ[i]? = some (.e a none)) :
    Ev (X0.suite a ((a, oe) :: pn)) wd ρ (.Call (.Name "isinstance" p) [.Name x p1, .Name y p2] [] pos) (R.ret (.bool true)) := fun F ad σ H Q s q => by
  obtain ⟨C', B, g1, g2, g3, g4, g5, g6, g7, g8⟩ := G.ok
  have eC : C' = C := by
    have := g1.symm.trans hm0
    cases this
    rfl
  subst eC
  obtain ⟨v1, v2, v3⟩ := c.vis hx
  obtain ⟨e1, _⟩ := s.sl i _ hρ
  refine be (pe_callB (call_isE (X := X0) hE hz hf) (c.gl hg).1 hm hv (pa_cons (pe_var (X := X0.suite a ((a, oe) :: pn)) (i := i) (by rw [c.hN]; exact hN) v1 v2 v3) (pa_cons (pe_glob (X := X0.suite a ((a, oe) :: pn)) (v := .ref B) (c.gl gy).1 g2 rfl (c.gl gy).2.1) pa_nil rfl) rfl) (c.gl hg).2.2 (c.gl hg).2.1 rfl rfl) ?_
  exact ⟨_, e1, .ref B, .ref B, true, rfl, fun u r => r, g3, q _ H (Grow.refl _ _) (.bl _)⟩
end
end Pu
/-! Pxu: own errors without a field; defs that raise, their arguments data. -/
namespace Pu
open PySem PySem.Spec PyProof.Rows L2 R
section
variable {CX : CXT} {k : Nat} {wd : Wd} {N : List Str} {sc : Scope} {X : Cx} {S B T : Type} {eS : S → List Sl} {eB : B → List Sl} {eT : T → List Sl} {eE eE2 : Empty → List Sl} {ρ : List Sl} {e ix : Expr} {es : List Expr} {rest suite : List Stmt} {b₀ : Stmt} {pos pa pc pf pi np ph : Pos} {f n cn : Str} {i j nn c0 : Nat}
/-- try: return f(..)[ix], except C: a suite that leaves -/
theorem run_tryR [Calm wd] (c : Cd CX k wd N sc X) (W : NoW wd) {l : List Str} {m : List D → R D} {rs : R (List D)} {ri : R D} {hh : R (Out Empty Empty T)} {t : T} (K : XcB X.K X.mg cn) (hl : l[c0]? = some cn) (hgc : glB sc cn = true)
    (G : Df X.prog X.w X.K X.mg X.base (L2.CX X.prog X.w) j f (spE X.K (xcB X.mg l) nn m)) (hj : j ≤ k) (hg : glB sc f = true) (hm : ∀ ds, ds.length ≠ nn → m ds = bad)
    (ha : ∀ pn xe, PassesOwn (model X.prog X.w) X.A X.env xe → EvA (X.tr pn xe) wd ρ (e :: es) rs) (hi : ∀ pn xe, PassesOwn (model X.prog X.w) X.A X.env xe → Ev (X.tr pn xe) wd ρ ix ri)
    (hs : ∀ (a : Addr) (oe : Obj) (pn : List (Addr × Obj)), Run (X.suite a ((a, oe) :: pn)) wd.hot eE eE2 eT ρ (b₀ :: suite) hh)
    (ht0 : eT t = []) (hp : PlainIx ix := by exact fun _ _ => rfl) (he : starEach (e :: es) X.env = (false, eval e X.env) :: starEach es X.env := by rfl) (hpl : (backTo pc (starEach es X.env)).any (·.1) = false := by rfl) :
    Run X wd eS eB eT ρ (.Try [.Return (some (.Subscript (.Call (.Name f pf) (e :: es) [] pc) ix pi)) pa] [.ExceptHandler (some (.Name cn np)) none (b₀ :: suite) ph] [] [] pos :: rest)
      (rs.bind fun ds => tryR c0 (fun d => ri.bind fun y => (ixR d y).bind fun z => R.ret (.rt z t)) (fun _ => upE hh) (m ds)) := fun F ad σ H Dn st q => by
  obtain ⟨fa, fd, ps, h1, h2, h3, h4⟩ := G.ok
  obtain ⟨C, x1, x2, x3, x4, x5, x6⟩ := K.ok
  have hxc : xcB X.mg l c0 = (.ref C, none) := xcB_of hl x1
  let tb : WX → TS := fun W D σ H => ∀ pn xe, Takes (X.tr pn xe) W → PassesOwn (model X.prog X.w) X.A X.env xe → BSs (X.tr pn xe) [.Return (some (.Subscript (.Call (.Name f pf) (e :: es) [] pc) ix pi)) pa] D σ H
  let ts : Addr → Value → Option Addr → TS := fun a cls d D σ H => ∀ (oe : Obj) (pn : List (Addr × Obj)), Zc cls d oe → (∃ vs, oe.data = .fields vs) → BSs (X.suite a ((a, oe) :: pn)) (b₀ :: suite) D σ H
  refine bss (pss_cons (ps_try_only (c := .ref C) (Wout := fun _ _ _ _ => False) (tb := tb) (ts := ts) c.stk c.frm ⟨(c.gl hgc).1, (c.gl hgc).2.1, .inl x1⟩ (fun u s' x => by
    obtain ⟨_, _, _, _, _, _, _, _, _, _, _, _, _, _, _, _, w⟩ := x
    exact w.elim) (fun W pn xe tk po => ⟨fun pins s σ H D I h => h pn xe tk po pins s I⟩) fun a oe cls d pn hz hf => ⟨fun pins s σ H D I h => h oe pn hz hf pins s I⟩) pss_b) ?_
  intro pn xe tk po
  rw [wp_bind] at q
  refine bss (pss_one (ps_ret (pe_ix (X := X.tr pn xe) ix_seq pe_b pe_b hp))) ?_
  refine be (pe_callS (X := X.tr pn xe) h4 (c.room.mono hj) (c.gl hg).1 h1 h2 h3 (fun σ => passAt tk σ) pa_b (c.gl hg).2.1 he hpl) ?_
  refine ha pn xe po F ad σ H _ st (wp_mono (fun ds q vs H1 g1 r1 => ?_) (fun _ _ z => (W.xp (z.xp st)).elim) q)
  have s1 := st.grow g1
  by_cases hl2 : ds.length = nn
  · refine ⟨Ban F ρ ad, ds, s1.fo, hl2, r1, wp_mono (fun d q v H' sm r => ?_) (fun c' x q Cx dx H' sm xr => ?_) (wp_try q)⟩
    · have g2 : Grow wd.dr H H' := g1.trans (Grow.same sm)
      have s2 := st.grow g2
      rw [wp_bind] at q
      refine hi pn xe po F ad σ H' _ s2 (wp_mono (fun y q w H2 g3 r3 => ?_) (fun _ _ z => (W.xp (z.xp st)).elim) q)
      have s3 := s2.grow g3
      have g4 : Grow wd.dr H H2 := g2.trans g3
      rw [wp_bind] at q
      refine opS_ix (Ban F ρ ad) H2 v w d y _ _ (fun b z => s3.banned z) (.inl (r.stay (s2.stays g3))) (.inl r3) (wp_mono (fun z q u H3 sm3 r4 => ?_) (fun _ _ z => z) q)
      have g5 : Grow wd.dr H H3 := g4.trans (Grow.same sm3)
      have q : OutOk X wd eS eB eT F ρ ad H Dn (.rt z t) := q
      exact q u ad ρ σ H3 (.grow g5) (st.grow g5) (fun i s e => by rw [ht0] at e; simp at e) (.inl r4)
    · obtain ⟨ec, q9⟩ := q
      subst ec
      obtain ⟨e1, e2⟩ := xr
      rw [hxc] at e1 e2
      have e1 : Cx = .ref C := e1
      have e2 : dx = none := e2
      subst e1 e2
      refine ⟨true, x5, fun _ a ha0 oe pn2 hz hf => ?_, fun z => by cases z⟩
      have g2 : Grow wd.dr H H' := g1.trans (Grow.same sm)
      have s2 := st.grow g2
      refine hs a oe pn2 F ad σ H' _ s2 ?_
      unfold upE at q9
      rw [wp_bind] at q9
      refine wp_mono (fun o2 q => ?_) (fun _ _ z => (W.xp (z.xp st)).elim) q9
      cases o2 with
      | nx s => exact s.elim
      | bk s => exact s.elim
      | ct s => exact s.elim
      | rt d t =>
        have q : OutOk X wd eS eB eT F ρ ad H Dn (.rt d t) := q
        intro v ad' ρ' σ' H2 adv st' ht ret
        exact OutOk.adv (X := X) (eS := eS) (eB := eB) (o := .rt d t) (.grow g2) q v ad' ρ' σ' H2 ⟨adv.keep, adv.draw, adv.pin⟩ st' ht ret
  · rw [hm ds hl2] at q; exact q.elim
end
end Pu
/-! Psk: sorted(xs, key=f), f a def of the program. -/
namespace PySem.W
open PySem PySem.Calls PyProof.Rows
section
variable {prog : Program} {w : World} {A : Around} {E : Value → Shared → Prop} {s : Shared} {a kS : Addr} {b : Bool} {vs : List Value} {keys : Array Value} {e e1 : Nat} {P : PySem.Fin → Shared → Prop}
theorem key_tailC {st : SortSt} {out : List Value} (nk : s.heap.get? kS = some (seqObj "list" keys e)) (na : s.heap.get? a = some (seqObj "list" #[] e1)) (hka : kS ≠ a)
    (hsz : keys.size ≤ sizeLine) (hz : out.length ≤ sizeLine) (hfl : failedOf st = none) (ho : (if b = true then ((arrOf st).map (·.2)).reverse else (arrOf st).map (·.2)) = out.toArray)
    (h : P (.done (.ret .none)) { s with heap := (s.heap.update kS (Obj.mapSeq fun _ => #[])).update a (Obj.mapSeq fun _ => out.toArray) }) :
    wpAny (model prog w) A (ksk_tail a b e1 (.ref kS) st) P E s := by
  have s1 := Heap.SameBut.update s.heap kS (Obj.mapSeq fun _ => (#[] : Array Value))
  have na1 : (s.heap.update kS (Obj.mapSeq fun _ => (#[] : Array Value))).get? a = some (seqObj "list" #[] e1) := (s1.2 a hka.symm).trans na
  unfold ksk_tail
  try dsimp only
  refine wpAny_bind (listUpdate_at nk rfl ?_ hsz (Nat.zero_le _))
  refine wpAny_bind (wpAny_letGo ?_)
  refine wpAny_bind (seqEpoch_at na1 rfl ?_)
  rw [ho]
  refine wpAny_bind (listUpdate_at na1 rfl ?_ (Nat.zero_le _) (by rw [List.size_toArray]; exact Nat.le_succ_of_le hz))
  rw [hfl]
  simp only [bne_self_eq_false, Bool.false_eq_true, if_false]
  exact wpAny_pure h
theorem key_endC {κ : PyProof.Rows.KeyKind} (nk : s.heap.get? kS = some (seqObj "list" keys e)) (na : s.heap.get? a = some (seqObj "list" #[] e1)) (hka : kS ≠ a)
    (S : SortsAt prog w A s κ keys.toList) (hsz : keys.size = vs.length) (hZ : vs.length ≤ sizeLine)
    (h : P (.done (.ret .none)) { s with heap := (s.heap.update kS (Obj.mapSeq fun _ => #[])).update a (Obj.mapSeq fun _ => (sortVals κ b keys.toList vs).toArray) }) :
    wpAny (model prog w) A (ksk_end a b vs.toArray e1 (.ref kS) keys) P E s := by
  obtain ⟨kd, h1, h2⟩ := S.kind
  have hkl : keys.toList.length = vs.length := by
    rw [Array.length_toList]
    exact hsz
  have hK : PyProof.Rows.KeysOf κ (keys.zip vs.toArray) := keysOf_zip S.keys
  have hol : (sortVals κ b keys.toList vs).length = vs.length := sortVals_length b hkl
  have hstart : (if b = true then (keys.zip vs.toArray).reverse else keys.zip vs.toArray).Perm (keys.zip vs.toArray) := by
    cases b with
    | false => exact Array.Perm.refl _
    | true => exact Array.perm_iff_toList_perm.mpr (by rw [if_pos rfl, Array.toList_reverse]; exact List.reverse_perm _)
  have hss : (if b = true then (keys.zip vs.toArray).reverse else keys.zip vs.toArray).size = vs.length := by rw [hstart.size_eq, Array.size_zip, hsz, List.size_toArray, Nat.min_self]
  have fin : ∀ st' : SortSt, (arrOf st').Perm (if b = true then (keys.zip vs.toArray).reverse else keys.zip vs.toArray) → SortedToK κ (arrOf st') (if b = true then (keys.zip vs.toArray).reverse else keys.zip vs.toArray).size →
      Stable κ (arrOf st') (if b = true then (keys.zip vs.toArray).reverse else keys.zip vs.toArray) → (if b = true then ((arrOf st').map (·.2)).reverse else (arrOf st').map (·.2)) = (sortVals κ b keys.toList vs).toArray := by
    intro st' hp hs ht
    have e := sort_out (rev := b) (keys := keys) (items := vs.toArray) (xs := arrOf st') (κ := κ) hK hp hs ht
    have e' := congrArg List.toArray e
    rw [Array.toArray_toList] at e'
    exact e'
  have step : ∀ t : Sem PySem.Fin, wpAny (model prog w) A t P E s → wpAny (model prog w) A (if b = true then (do let _ ← rule "list.sort.reverse"; t) else t) P E s := by
    intro t ht
    split
    · exact wpAny_bind (wpAny_rule ht)
    · exact ht
  unfold ksk_end
  try dsimp only
  refine step _ ?_
  by_cases hl2 : vs.toArray.size < 2
  · rw [if_pos hl2, if_pos hl2]
    refine wpAny_bind (wpAny_pure ?_)
    rw [StateT.run_pure]
    refine wpAny_bind (wpAny_pure ?_)
    try dsimp only
    refine key_tailC (st := SortSt.mk' general' (if b = true then (keys.zip vs.toArray).reverse else keys.zip vs.toArray) #[] 7 none) nk na hka (by rw [hsz]; exact hZ) (by rw [hol]; exact hZ) rfl (fin _ (Array.Perm.refl _) ?_ (Stable.refl _)) h
    intro i j hij hj
    rw [hss] at hj
    rw [List.size_toArray] at hl2
    have : i = j := by omega
    subst this
    exact KeyOrd.kle_refl _
  · rw [if_neg hl2, if_neg hl2]
    rw [List.size_toArray] at hl2
    refine wpAny_bind (h2 (by omega) _ ?_)
    refine wpAny_bind (wpAny_mono (H.wpS_sortRunsSt (κ := κ) (kd := kd) (a₀ := if b = true then (keys.zip vs.toArray).reverse else keys.zip vs.toArray)
      (st := SortSt.mk' kd (if b = true then (keys.zip vs.toArray).reverse else keys.zip vs.toArray) #[] 7 none)
      (Q := fun _ st' => failedOf st' = none ∧ (if b = true then ((arrOf st').map (·.2)).reverse else (arrOf st').map (·.2)) = (sortVals κ b keys.toList vs).toArray)
      h1 (hK.perm hstart) ⟨Array.Perm.refl _, rfl, rfl⟩ rfl (Stable.refl _) (by rw [hss]; omega) fun st' a1 a2 a3 a4 => ⟨a2, fin st' a1 a3 a4⟩) ?_ fun _ _ e => e)
    rintro ⟨⟨⟩, st'⟩ s' ⟨rfl, hf, ho⟩
    try dsimp only at ho ⊢
    exact key_tailC nk na hka (by rw [hsz]; exact hZ) (by rw [hol]; exact hZ) hf ho h
end
end PySem.W
namespace Pu
open PySem PySem.Spec PyProof.Rows L2 R
section
variable {X : Cx} {pins : List (Addr × Obj)} {σ : L2.St} {H : Hp} {s : Shared} {h' : Heap}
/-- records of ours have turned, one of them is tracked from here on -/
theorem inv_track {t' : Nat} {ch : List Addr} {T : Addr} {ob : HO} (I : Inv X pins σ H s) (k : ∀ b o, b ∉ ch → s.heap.get? b = some o → h'.get? b = some o) (hf : ∀ b ∈ ch, H b = none ∧ FbM.Rec X pins b) (hT : T ∈ ch)
    (new : ObjOk X.prog X.w (upd H T ob) h' T ob) : Inv X pins σ (upd H T ob) { s with heap := h', toks := t' } := by
  have hn : H T = none := (hf T hT).1
  have nit : ∀ b u, H b = some u → b ∉ ch := fun b u e z => by
    have q := (hf b z).1
    rw [q] at e; cases e
  refine I.step (g' := s.gens) (d' := s.drawn) (ch := ch) (fun b hb => ⟨.inr (hf b hb).2.ge, (hf b hb).2.nl, (hf b hb).2.ce, (hf b hb).2.pn⟩) (fun b o _ _ hc e _ => k b o hc e) (fun b o _ _ hc e _ => ⟨o.slots, k b o hc e⟩)
    (fun b o hc e n => ?_) (fun b o hc e => ⟨o, k b o hc e⟩) (fun b xs e => ?_) (fun b o u e => ?_) (fun b ps e => ⟨#[], ?_⟩) (fun m hm => ?_) (fun b u e => ?_) I.bare
  · rw [upd_ne (fun z => hc (by rw [z]; exact hT))]; exact n
  · rw [upd_ne (ne_of_none e hn)]; exact e
  · rw [upd_ne (ne_of_none e hn)]; exact e
  · rw [upd_ne (ne_of_none e hn), e]; simp
  · obtain ⟨o, es, ep, ho, r⟩ := hm
    exact ⟨o, es, ep, k _ o (fun z => (hf _ z).2.nl rfl) ho, r⟩
  · by_cases hb : b = T
    · subst hb
      rw [upd_same] at e
      cases e
      exact new
    · rw [upd_ne hb] at e
      refine (I.hok b u e).stay (fun c v hc q => k c v ?_ q) (fun c q => by rw [upd_ne (ne_of_none q hn)]; exact q) fun c xs q => by rw [upd_ne (ne_of_none q hn)]; exact q
      rcases hc with z | z
      · rw [z]; exact nit b u e
      · exact nit c _ z
theorem inv_turns {t' : Nat} {b : Addr} (I : Inv X pins σ H s) (n : H b = none) (r : FbM.Rec X pins b) (k : ∀ c o, c ≠ b → s.heap.get? c = some o → h'.get? c = some o) : Inv X pins σ H { s with heap := h', toks := t' } := r.turn (t' := t') I n k
end
def srtK (ks ds : List D) : List D := ((ks.zip ds).mergeSort (PySem.W.dataLe false Prod.fst)).map Prod.snd
def sortKL (m : D → R D) (ds : List D) : R (List D) := (compR (fun _ => R.ret true) m ds []).bind fun ks => if srtOk ks = true ∧ ds.length ≤ sizeLine then R.ret (srtK ks ds) else bad
def sortKR (m : D → R D) (d : D) : R (List D) := match d with
  | .list ds => nx (sortKL m ds)
  | .tuple ds => nx (sortKL m ds)
  | _ => bad
theorem fo_same {K : PySem.W.Frag} {H H' : Hp} {B : Addr → Prop} (fo : Fo K H B) (sm : Same H H') : Fo K H' B := ⟨fun b z => let ⟨o, e, n⟩ := fo.b b z; ⟨o, sm _ _ e, n⟩, fo.t.same sm⟩
theorem each_zip {α β γ : Type} {R : α → γ → Prop} : ∀ {as : List α} {cs : List β} {ds : List γ}, PySem.W.EachIs R as ds → cs.length = ds.length → PySem.W.EachIs (fun a p => R a p.2) as (cs.zip ds)
  | _, [], _, .nil, _ => .nil
  | _, c :: cs, _, .cons h t, e => .cons h (each_zip t (by simpa using e))
  | _, _ :: _, _, .nil, e => by simp at e
  | _, [], _, .cons _ _, e => by simp at e
theorem each_snd {α β γ : Type} {R : α → γ → Prop} : ∀ {as : List α} {ps : List (β × γ)}, PySem.W.EachIs (fun a p => R a p.2) as ps → PySem.W.EachIs R as (ps.map Prod.snd)
  | _, _, .nil => .nil
  | _, _, .cons h t => .cons h (each_snd t)
theorem each_get {α β : Type} {R : α → β → Prop} {j : Nat} {a : α} {b : β} : ∀ {as : List α} {bs : List β}, PySem.W.EachIs R as bs → as[j]? = some a → bs[j]? = some b → R a b := by
  induction j with
  | zero =>
    intro as bs h e1 e2
    cases h with
    | nil => cases e1
    | cons h t => cases e1; cases e2; exact h
  | succ j ih =>
    intro as bs h e1 e2
    cases h with
    | nil => cases e1
    | cons h t => exact ih t (by simpa using e1) (by simpa using e2)
theorem sortK_run {X : Cx} {pins : List (Addr × Obj)} {σ : L2.St} {H : Hp} {s : Shared} {Q : VK} {f l : Addr} {fd : FuncData} {ps : List Str} {m : D → R D} {k : Nat} {T : String} {o : Obj} {its : List Value} {nn : Nat} {vs : List V} {ds : List D} {B : Addr → Prop} (I : Inv X pins σ H s)
    (Fn : FnOk X.prog X.w X.K X.mg X.base CX0 k f fd ps (spP X.K 1 (l1 m))) (hr : Room k X.A.in1.in1) (hb : Binds X.K fd ps []) (hT : T = "list" ∨ T = "tuple") (ho : s.heap.get? l = some o) (hc : o.cls = .type T) (hd : o.data = .seq its.toArray nn) (hz : its.length ≤ sizeLine)
    (rv : Vals vs its) (fo : Fo X.K H B) (rr : Reps X.K B H vs ds) (q : (sortKL m ds).wp (fun out => ∀ ys p H', Same H H' → H' p = none → Reps X.K B H' ys out → Q (.ref p) (upd H' p (.lst ys))) fun _ _ => False) :
    wpAny (model X.prog X.w) X.A (call (.builtin "sorted") [.ref l] [(Str.ofString "key", .ref f)]) (EP X pins σ Q) X.xe s := by
  have each0 := each_vals rr rv
  have hlen : ds.length = its.length := each0.length.symm
  refine call_function_entry_kw PyProof.Rows.kind_sorted PyProof.Rows.plain_sorted PyProof.Rows.entry_sorted (ksk_s1 _ _) ?_
  unfold Builtin.«sorted»
  refine wpAny_bind (m := checkCount "sorted" 1 1 _) (wpAny_pure ?_)
  refine wpAny_bind (wpAny_collect_seq l hT ho hc hd (fun h1 k1 => ?_) (by rw [List.size_toArray]; exact hz))
  rw [List.toList_toArray]
  have I1 : Inv X pins σ H { s with heap := h1 } := I.kept (t' := s.toks) k1
  refine wpAny_bind (wpAny_newList ?_ hz)
  generalize ea : h1.objs.size = a at I1
  have Ra : FbM.Rec X pins a := FbM.rec_new I1 (Nat.le_of_eq ea)
  have Ha : H a = none := I1.hok.fresh (Nat.le_of_eq ea)
  have hoL : (h1.push (seqObj "list" its.toArray 0)).get? a = some (seqObj "list" its.toArray 0) := by rw [← ea]; exact Heap.get?_push_size _ rfl
  have I2 : Inv X pins σ H { s with heap := h1.push (seqObj "list" its.toArray 0) } := I1.kept (t' := s.toks) fun b u e => Heap.get?_push_of_some _ e
  generalize h1.push (seqObj "list" its.toArray 0) = h2 at hoL I2
  refine wpAny_bind (wpAny_holding (wpAny_call_entry_kw slot_list_sort ⟨_, hoL, rfl⟩ entry_list_sort ?_ (ksk_l1 _ _)))
  rw [ksk_t1]
  have s1 := Heap.SameBut.update h2 a (Obj.mapSeq fun _ => (#[] : Array Value))
  obtain ⟨e1, ho1⟩ : ∃ e1, (h2.update a (Obj.mapSeq fun _ => (#[] : Array Value))).get? a = some (seqObj "list" #[] e1) := ⟨_, get?_update_seq hoL fun _ => #[]⟩
  have I3 : Inv X pins σ H { s with heap := h2.update a (Obj.mapSeq fun _ => (#[] : Array Value)) } := inv_turns (s := { s with heap := h2 }) (t' := s.toks) I2 Ha Ra fun c u hc e => (s1.2 c hc).trans e
  unfold ksk_tree
  refine wpAny_bind (listItems_at hoL rfl ?_)
  refine wpAny_bind (listUpdate_at hoL rfl ?_ (by rw [List.size_toArray]; exact hz) (Nat.zero_le _))
  generalize h2.update a (Obj.mapSeq fun _ => (#[] : Array Value)) = h3 at ho1 I3
  refine wpAny_bind (seqEpoch_at ho1 rfl ?_)
  refine wpAny_bind (wpAny_newTuple ?_ (by rw [List.toList_toArray]; exact hz))
  have I4 : Inv X pins σ H { s with heap := h3.push (seqObj "tuple" its.toArray.toList.toArray 0) } := I3.kept (t' := s.toks) fun b u e => Heap.get?_push_of_some _ e
  have ho4 : (h3.push (seqObj "tuple" its.toArray.toList.toArray 0)).get? a = some (seqObj "list" #[] e1) := Heap.get?_push_of_some _ ho1
  generalize h3.push (seqObj "tuple" its.toArray.toList.toArray 0) = h4 at I4 ho4
  refine wpAny_bind (wpAny_newList ?_ (Nat.zero_le _))
  generalize ek : h4.objs.size = kS at I4
  have Rk : FbM.Rec X pins kS := FbM.rec_new I4 (Nat.le_of_eq ek)
  have Hk : H kS = none := I4.hok.fresh (Nat.le_of_eq ek)
  have hka : kS ≠ a := fun z => by
    have this := Heap.lt_size ho4
    rw [ek, ← z] at this
    exact Nat.lt_irrefl _ this
  have hok5 : (h4.push (seqObj "list" #[] 0)).get? kS = some (seqObj "list" #[] 0) := by rw [← ek]; exact Heap.get?_push_size _ rfl
  have ho5 : (h4.push (seqObj "list" #[] 0)).get? a = some (seqObj "list" #[] e1) := Heap.get?_push_of_some _ ho4
  have I5 : Inv X pins σ H { s with heap := h4.push (seqObj "list" #[] 0) } := I4.kept (t' := s.toks) fun b u e => Heap.get?_push_of_some _ e
  refine wpAny_holding ?_
  generalize h4.push (seqObj "list" #[] 0) = h5 at hok5 ho5 I5
  unfold ksk_rest
  refine wpAny_bind (wpAny_rule ?_)
  first
    | rw [List.forIn_toArray]
    | (rw [← Array.forIn_toList]; simp only [List.toList_toArray])
    | rw [← Array.forIn_toList]
  unfold sortKL at q
  refine wpAny_bind (ksk_fold (fun i s' => ∃ (H' : Hp) (kA : Array Value) (e : Nat) (acc : List D), Inv X pins σ H' s' ∧ Same H H' ∧ H' a = none ∧ H' kS = none ∧ s'.heap.get? kS = some (seqObj "list" kA e) ∧ s'.heap.get? a = some (seqObj "list" #[] e1) ∧
      PySem.W.EachIs (fun u d => ∃ v, RelV v u ∧ Rep X.K B H' v d) kA.toList acc ∧ acc.length = i ∧
      ((compR (fun _ => R.ret true) m (ds.drop i) acc).bind fun ks => if srtOk ks = true ∧ ds.length ≤ sizeLine then R.ret (srtK ks ds) else bad).wp (fun out => ∀ ys p H', Same H H' → H' p = none → Reps X.K B H' ys out → Q (.ref p) (upd H' p (.lst ys))) fun _ _ => False) its 0 _
    ⟨H, #[], 0, [], I5, Same.refl _, Ha, Hk, hok5, ho5, .nil, rfl, q⟩ ?step ?done)
  case step =>
    rintro j x s' hx ⟨H', kA, e, acc, I', sm, na, nk, hk1, ha1, each, hl, q⟩
    simp only [Nat.zero_add] at hl q ⊢
    have hj : j < its.length := (List.getElem?_eq_some_iff.mp hx).1
    have hjd : j < ds.length := by omega
    obtain ⟨v, rx, rd⟩ := each_get each0 hx (List.getElem?_eq_getElem hjd)
    have edrop : ds.drop j = ds[j] :: ds.drop (j + 1) := List.drop_eq_getElem_cons hjd
    rw [edrop] at q
    unfold compR at q
    simp only [nx_ret, ret_bind, if_true] at q
    rw [R.bind_assoc, wp_bind] at q
    have q2 := wp_nx (E' := fun _ _ => False) q
    have fo' : Fo X.K H' B := fo_same fo sm
    have hl1 : ([x] ++ ([] : List Value)).length = ps.length := by
      have := Fn.len [v] H' (fun _ _ => True) (fun _ _ _ => False) ⟨B, [ds[j]], fo', rfl, .cons (rd.stay (same_stay sm)) .nil, wp_mono (fun _ _ _ _ _ _ => trivial) (fun _ _ z => z) q2⟩
      simpa using this
    refine wpAny_bind (wpAny_attempt (wpAny_mono (Q := fun u s'' => ∃ (H'' : Hp) (y : D), Inv X pins σ H'' s'' ∧ Same H' H'' ∧ H'' a = none ∧ H'' kS = none ∧ s''.heap.get? kS = some (seqObj "list" kA e) ∧ s''.heap.get? a = some (seqObj "list" #[] e1) ∧ (∃ v', RelV v' u ∧ Rep X.K B H'' v' y) ∧
        ((if acc.length < sizeLine then compR (fun _ => R.ret true) m (ds.drop (j + 1)) (acc ++ [y]) else bad).bind fun ks => if srtOk ks = true ∧ ds.length ≤ sizeLine then R.ret (srtK ks ds) else bad).wp (fun out => ∀ ys p H', Same H H' → H' p = none → Reps X.K B H' ys out → Q (.ref p) (upd H' p (.lst ys))) fun _ _ => False) (E := fun _ _ => False) ?call (fun u s'' hq => ?_) fun _ _ hF => hF.elim))
    case call =>
      refine wpAny_call (codeAny_mono (Fn.run X.A.in1.in1 X.stack s' H' ⟨[x], []⟩ [x] [v] (fun v' H'' => ∃ y, Same H' H'' ∧ Rep X.K B H'' v' y ∧
        ((if acc.length < sizeLine then compR (fun _ => R.ret true) m (ds.drop (j + 1)) (acc ++ [y]) else bad).bind fun ks => if srtOk ks = true ∧ ds.length ≤ sizeLine then R.ret (srtK ks ds) else bad).wp (fun out => ∀ ys p H', Same H H' → H' p = none → Reps X.K B H' ys out → Q (.ref p) (upd H' p (.lst ys))) fun _ _ => False) (fun _ _ _ => False) hr I'.env0.in1.in1 (by have := hb s' [x] I'.kIn hl1; rw [List.append_nil] at this; exact this) (.cons rx .nil)
          ⟨B, [ds[j]], fo', rfl, .cons (rd.stay (same_stay sm)) .nil, wp_mono (fun y hy v' H'' sm2 r2 => ⟨y, sm2, r2, hy⟩) (fun _ _ z => z) q2⟩) fun r s'' hq => ?_)
      cases r with
      | error er => exact hq
      | ok fl =>
        cases fl with
        | next => exact False.elim hq
        | brk => exact False.elim hq
        | cont => exact False.elim hq
        | ret u =>
          obtain ⟨v', H'', os, bare, un, hok', rv', y, sm2, r2, q3⟩ := (show CE X.stack X.prog X.w H' _ _ u s'' from hq)
          have I'' : Inv X pins σ H'' s'' := I'.call' os un hok' bare fun b y => absurd y List.not_mem_nil
          exact ⟨H'', y, I'', sm2, un.free a _ ha1 na List.not_mem_nil, un.free kS _ hk1 nk List.not_mem_nil, un.keep kS _ hk1 nk Rk.fr List.not_mem_nil, un.keep a _ ha1 na Ra.fr List.not_mem_nil, ⟨v', rv', r2⟩, q3⟩
    · obtain ⟨H'', y, I'', sm2, na2, nk2, hk2, ha2, ⟨v', rv', r2⟩, q3⟩ := hq
      try dsimp only
      have hsz : kA.size = acc.length := by
        have := each.length
        rw [Array.length_toList] at this
        exact this
      have s2 := Heap.SameBut.update s''.heap kS (Obj.mapSeq (·.push u))
      obtain ⟨c2, hc2⟩ : ∃ c2, (s''.heap.update kS (Obj.mapSeq (·.push u))).get? kS = some (seqObj "list" (kA.push u) c2) := ⟨_, get?_update_seq hk2 (·.push u)⟩
      have hlt : acc.length < sizeLine := by omega
      rw [if_pos hlt] at q3
      refine wpAny_bind (listUpdate_at hk2 rfl ?_ (by omega) (Nat.le_trans (Nat.le_of_eq (Array.size_push ..)) (by omega)))
      refine wpAny_pure ⟨rfl, H'', kA.push u, c2, acc ++ [y], inv_turns (t' := s''.toks) I'' nk2 Rk fun c o hc e => (s2.2 c hc).trans e, sm.trans sm2, na2, nk2, hc2, (s2.2 a hka.symm).trans ha2, ?_, by rw [List.length_append, hl]; rfl, q3⟩
      rw [show (kA.push u).toList = kA.toList ++ [u] by simp]
      exact PySem.W.each_snoc ⟨v', rv', r2⟩ (each_pair each fun _ _ ⟨v, a, b⟩ => ⟨v, a, b.stay (same_stay sm2)⟩)
  case done =>
    rintro s' ⟨H', kA, e, acc, I', sm, na, nk, hk1, ha1, each, hl, q⟩
    rw [Nat.zero_add] at hl q
    rw [List.drop_of_length_le (by omega)] at q
    unfold compR at q
    rw [ret_bind] at q
    obtain ⟨⟨ok1, _⟩, q⟩ := wp_ite q
    have q : ∀ ys p H', Same H H' → H' p = none → Reps X.K B H' ys (srtK acc ds) → Q (.ref p) (upd H' p (.lst ys)) := q
    obtain ⟨g1, g2, g3⟩ := srt_alike ok1
    obtain ⟨vk, hvk, hyk⟩ := vals_each each
    obtain ⟨as, ra⟩ := Dp.readsAll I' acc vk kA.toList hyk.dp hvk
    have reads := reads_each ra
    have hsz : kA.size = its.length := by
      have := each.length
      rw [Array.length_toList] at this
      omega
    try dsimp only
    refine wpAny_bind (listItems_at hk1 rfl ?_)
    refine PySem.W.key_endC (κ := PySem.W.dataKind s'.heap acc) hk1 ha1 hka (PySem.W.SortsAt.data reads g1 g2 fun d hd => by have := g3 d hd; have := hr.un; omega) hsz hz ?_
    have em : (acc.zip ds).map Prod.fst = acc := List.map_fst_zip (by omega)
    have ko : PySem.W.KeyedOut false ((acc.zip ds).map Prod.fst) its (PySem.W.sortVals (PySem.W.dataKind s'.heap acc) false kA.toList its) := by
      rw [em]
      exact ⟨s'.heap, kA.toList, g1, rfl, reads⟩
    have e0 : PySem.W.EachIs (fun u d => ∃ v, RelV v u ∧ Rep X.K B H' v d) its ds := each_pair each0 fun _ _ ⟨v, a, b⟩ => ⟨v, a, b.stay (same_stay sm)⟩
    have eo := each_snd (R := fun u d => ∃ v, RelV v u ∧ Rep X.K B H' v d) (PySem.W.keyedOut_each (R := fun u (p : D × D) => ∃ v, RelV v u ∧ Rep X.K B H' v p.2) Prod.fst ko (each_zip e0 (show acc.length = ds.length by omega)))
    generalize PySem.W.sortVals (PySem.W.dataKind s'.heap acc) false kA.toList its = out at eo
    obtain ⟨ys, hv, hy⟩ := vals_each (K := X.K) (B := B) (H := H') eo
    have t1 := Heap.SameBut.update s'.heap kS (Obj.mapSeq fun _ => (#[] : Array Value))
    have na1 : (s'.heap.update kS (Obj.mapSeq fun _ => (#[] : Array Value))).get? a = some (seqObj "list" #[] e1) := (t1.2 a hka.symm).trans ha1
    have t2 := Heap.SameBut.update (s'.heap.update kS (Obj.mapSeq fun _ => (#[] : Array Value))) a (Obj.mapSeq fun _ => out.toArray)
    obtain ⟨c2, hc2⟩ : ∃ c2, ((s'.heap.update kS (Obj.mapSeq fun _ => (#[] : Array Value))).update a (Obj.mapSeq fun _ => out.toArray)).get? a = some (seqObj "list" out.toArray c2) := ⟨_, get?_update_seq na1 fun _ => out.toArray⟩
    have hlo : ys.length ≤ sizeLine := by
      rw [hy.length, List.length_map, List.length_mergeSort, List.length_zip]
      omega
    refine ⟨_, rfl, wpAny_pure ⟨_, rfl, .ref a, upd H' a (.lst ys), inv_track (t' := s'.toks) (ch := [a, kS]) I' (fun b o hb e => ?_) (fun b hb => ?_) (by simp) ⟨hlo, out, c2, hv, hc2⟩, rfl, q ys a H' sm na hy⟩⟩
    · simp only [List.mem_cons, List.not_mem_nil, or_false, not_or] at hb
      exact (t2.2 b hb.1).trans ((t1.2 b hb.2).trans e)
    · simp only [List.mem_cons, List.not_mem_nil, or_false] at hb
      rcases hb with rfl | rfl
      · exact ⟨na, Ra⟩
      · exact ⟨nk, Rk⟩
def rSortK (K : PySem.W.Frag) (m : D → R D) (fa : Addr) : List V → List V → Hp → VK → Prop := fun vs zs H Q => ∃ (a : Addr) (xs : List V) (ds : List D) (B : Addr → Prop), vs = [V.ref a] ∧ zs = [V.ref fa] ∧ (SqL K H a xs ∨ SqT K H a xs) ∧ Fo K H B ∧ Reps K B H xs ds ∧
  (sortKL m ds).wp (fun out => ∀ ys p H', Same H H' → H' p = none → Reps K B H' ys out → Q (.ref p) (upd H' p (.lst ys))) fun _ _ => False
theorem cr_sortK {X : Cx} {m : D → R D} {k : Nat} {f : Addr} {fd : FuncData} {ps : List Str} (Fn : FnOk X.prog X.w X.K X.mg X.base CX0 k f fd ps (spP X.K 1 (l1 m))) (hr : Room k X.A.in1.in1) (hb : Binds X.K fd ps []) : CallRK X (.builtin "sorted") [Str.ofString "key"] (rSortK X.K m f) := by
  intro pins s σ H vs zs us ws Q I r rz h
  obtain ⟨a, xs, ds, B, rfl, rfl, hs, fo, rr, q⟩ := h
  obtain rfl := Vals.ref1 r
  obtain rfl := Vals.ref1 rz
  rcases hs with hs | hs
  · obtain ⟨its, rv, ⟨o, n, e1, e2, _, e3⟩, hz⟩ := I.list hs
    exact sortK_run I Fn hr hb (.inl rfl) e1 e2 e3 (by rw [← rv.length]; exact hz) rv fo rr q
  · obtain ⟨its, rv, ⟨o, e1, e2, n, e3⟩, hz⟩ := I.tuple hs
    exact sortK_run I Fn hr hb (.inr rfl) e1 e2 e3 (by rw [← rv.length]; exact hz) rv fo rr q
section
variable {k j : Nat} {wd : Wd} {N : List Str} {sc : Scope} {X : Cx} {ρ : List Sl} {a : Expr} {pos p pf pk : Pos} {f : Str} {ra : R D} {CX : CXT}
/-- sorted(a, key=f) -/
theorem evl_sortK [Calm wd] (c : Cw CX k wd N sc X) (Bt : Bt X.mg) {m : D → R D} (hg : glB sc "sorted" = true) (G : Df X.prog X.w X.K X.mg X.base CX0 j f (spP X.K 1 (l1 m))) (hj : j + 2 ≤ k) (hgf : glB sc f = true) (ha : EvB X wd ρ a ra) (he : Plain X a := by exact fun _ => rfl) :
    EvL X wd ρ (.Call (.Name "sorted" p) [a] [⟨some "key", .Name f pf, pk⟩] pos) (ra.bind fun x => sortKR m x) := fun F ad σ H Q s q => by
  obtain ⟨fa, fd, ps, h1, h2, h3, h4⟩ := G.ok
  have hr : Room j X.A.in1.in1 := (c.room.mono hj).in1.in1
  refine be (pe_callBK (cr_sortK h4 hr h3) (c.gl hg).1 Bt.sorted bv_sorted (pa_cons pe_b pa_nil (he [])) (pk_cons (pe_glob (v := .ref fa) (c.gl hgf).1 h1 rfl (c.gl hgf).2.1) pk_nil) (c.gl hg).2.2 (c.gl hg).2.1 (by rw [he []]; rfl) (by rw [he []]; rfl)) ?_
  rw [wp_bind] at q
  refine ha F ad σ H _ s (wp_mono (fun d q v H1 g1 r1 => ?_) (fun _ _ z => z) q)
  have s1 := s.grow g1
  have fin : ∀ (b : Addr) (vs : List V) (ds : List D), v = .ref b → (SqL X.K H1 b vs ∨ SqT X.K H1 b vs) → Reps X.K (Ban F ρ ad) H1 vs ds → (nx (sortKL m ds)).wp (fun ds => ∀ (a : Addr) (vs : List V) (H' : Hp), Grow wd.dr H H' → H a = none → H' a = some (HO.lst vs) → Reps X.K (fun b => Ban F ρ ad b ∨ b = a) H' vs ds → Q (V.ref a) H') (XP X wd F ρ ad H) →
      rSortK X.K m fa [v] [.ref fa] H1 Q := fun b vs ds ev hs rr q => ⟨b, vs, ds, Ban F ρ ad, by rw [ev], rfl, hs, s1.fo, rr, wp_mono (fun out q ys p H' sm hp hy => by
    have g2 : Grow wd.dr H H' := g1.trans (Grow.same sm)
    refine q p ys _ (g2.trans (Grow.same (same_upd hp))) (free_grow s g2 hp) upd_same ?_
    refine (hy.ban fun b z => ?_).stay (same_stay (same_upd hp))
    rcases z with z | rfl
    · exact .inl z
    · exact .inr hp) (fun _ _ z => z) (wp_nx (E' := fun _ _ => False) q)⟩
  cases d with
  | list ds =>
    obtain ⟨b, vs, rfl, h1, rr⟩ := r1.list
    exact fin b vs ds rfl (.inl (.inl h1)) rr q
  | tuple ds =>
    obtain ⟨b, vs, rfl, h1, rr⟩ := r1.tuple
    exact fin b vs ds rfl (.inr h1.sq) rr q
  | _ => exact q.elim
/-- str(a), an int -/
def strI : D → R D
  | .int i => if i.natAbs.log2 < 1920 then R.ret (.str (toString i)) else bad
  | _ => bad
theorem calS_strI {K : PySem.W.Frag} : CalS K (fun xs H Q => ∃ i : Int, xs = [.int i] ∧ i.natAbs.log2 < 1920 ∧ Q (.str (toString i)) H) strI := by
  intro B H x d Q E nb r q
  cases d with
  | int i =>
    obtain ⟨h, q⟩ := wp_ite q
    exact ⟨i, by rw [r.int], h, q _ _ (Same.refl _) (.str _)⟩
  | _ => exact q.elim
theorem bv_str0 : bootBuiltins "str" = some (.type "str") := by decide +kernel
theorem ev_strI (c : Cw CX k wd N sc X) (B : Bt X.mg) (hg : glB sc "str" = true) (ha : EvB X wd ρ a ra) (he : Plain X a := by exact fun _ => rfl) : Ev X wd ρ (.Call (.Name "str" p) [a] [] pos) (ra.bind fun x => strI x) := ev_t1 c call_str_int calS_strI hg B.str bv_str0 ha he
end
end Pu
/-! Pli: stores into a list of a def's own, a new list by repetition, ranges downwards, the greatest of three. -/
namespace Pu
open PySem PySem.Spec PyProof.Rows L2 R
def putIx (xs : List D) (j d : D) : R (List D) := match j with
  | .int j => (match ixN xs.length j with | some k => R.ret (xs.set k d) | none => bad)
  | _ => bad
/-- xs * k, a new list -/
def repR (x y : D) : R (List D) := match x, y with
  | .list xs, .int k => if -(2 ^ 63) ≤ k ∧ k < 2 ^ 63 ∧ xs.length * k.toNat ≤ sizeLine then R.ret (List.replicate k.toNat xs).flatten else bad
  | _, _ => bad
def max3R : D → D → D → R D
  | .int i, .int j, .int k => R.ret (.int (if (if i < j then j else i) < k then k else (if i < j then j else i)))
  | _, _, _ => bad
/-- range(i, j, -1) -/
def rngDR : D → D → R (List D)
  | .int i, .int j => if -(2 ^ 62) ≤ i ∧ i < 2 ^ 62 ∧ -(2 ^ 62) ≤ j ∧ j < 2 ^ 62 then R.ret ((List.range (i - j).toNat).map fun (k : Nat) => PyData.int (i + (k : Nat) * (-1))) else bad
  | _, _ => bad
section
variable {CX : CXT} {k : Nat} {wd : Wd} {N : List Str} {sc : Scope} {X : Cx} {S B T : Type} {eS : S → List Sl} {eB : B → List Sl} {eT : T → List Sl} {ρ : List Sl} {e ix a b d : Expr} {rest : List Stmt} {pos p p3 : Pos} {ra rb rd : R D} {x : Str}
theorem run_putL (c : Cd CX k wd N sc X) {i : Nat} {xs : List D} {o : List D → R (Out S B T)} (hx : visB sc x = true) (hN : N[i]? = some x) (hρ : ρ[i]? = some (.l xs)) (hv : Ev X wd ρ e rb) (hk : Ev X wd ρ ix ra) (hr : ∀ ys, Run X wd eS eB eT (ρ.set i (.l ys)) rest (o ys))
    (hs : swapsWithSole [.Subscript (.Name x p) ix p3] e pos.line X.env = pure false := by rfl) (hw : swappedStores [.Subscript (.Name x p) ix p3] e X.env = pure none := by rfl)
    (hsub : ∀ v, assign (.Subscript (.Name x p) ix p3) X.env v = (do
      let ov ← holding [v] (eval (.Name x p) X.env)
      let iv ← holding [v, ov] (eval ix X.env)
      standAt p3
      holding [v, ov, iv] (setItem ov iv v)
      release [v, ov, iv] []) := by intro _; rfl) :
    Run X wd eS eB eT ρ (.Assign [.Subscript (.Name x p) ix p3] e pos :: rest) (rb.bind fun v => ra.bind fun y => (putIx xs y v).bind o) := fun F ad σ H Dn sk q => by
  obtain ⟨v1, v2, v3⟩ := c.vis hx
  have ow : Own ρ i := ⟨_, hρ, rfl⟩
  refine bss (pss_cons (ps_asg pe_b (pg_sub (pe_var (i := i) (c.at hN) v1 v2 v3) pe_b set_list hsub) hs hw) pss_b) ?_
  refine step_ev (o := fun v => ra.bind fun y => (putIx xs y v).bind o) hv sk q fun d v H1 g1 r1 q => ?_
  have s1 := sk.grow g1
  obtain ⟨ev, _⟩ := s1.sl i _ hρ
  refine ⟨_, ev, step_ev (o := fun y => (putIx xs y d).bind o) hk s1 q fun y w H2 g2 r2 q => ?_⟩
  have s2 := s1.grow g2
  obtain ⟨ev2, vs, e2, rr⟩ := s2.sl i _ hρ
  cases y with
  | int j =>
    unfold putIx at q
    simp only at q
    cases ek : ixN xs.length j with
    | none => rw [ek] at q; exact q.elim
    | some kk =>
      rw [ek] at q
      cases r2
      refine ⟨ad i, vs, j, kk, rfl, rfl, e2, by rw [rr.length]; exact ek, ?_⟩
      have rv := r1.stay (s1.stays g2)
      refine hr _ F ad σ _ Dn (s2.mut ow rfl ⟨ev2, _, upd_same, ?_⟩) (wp_adv (.mut s2 ow) q)
      exact (Reps.set kk rv rr).stay (stay_upd ow)
  | _ => exact q.elim
theorem evl_rep (ha : EvB X wd ρ a ra) (hb : EvB X wd ρ b rb) : EvL X wd ρ (.BinOp a .Mult b pos) (ra.bind fun x => rb.bind fun y => repR x y) := fun F ad σ H Q s q => by
  refine be (pe_op op_repR pe_b pe_b) ?_
  rw [wp_bind] at q
  refine ha F ad σ H _ s (wp_mono (fun d q v H1 g1 r1 => ?_) (fun _ _ z => z) q)
  rw [wp_bind] at q
  have s1 := s.grow g1
  refine hb F ad σ H1 _ s1 (wp_mono (fun d2 q v2 H2 g2 r2 => ?_) (fun _ _ z => z.grow g1) q)
  have s2 := s1.grow g2
  cases d with
  | list xs =>
    cases d2 with
    | int j =>
      obtain ⟨⟨h1, h2, h3⟩, q⟩ := wp_ite q
      obtain ⟨l1, vs, rfl, e1, t1⟩ := (r1.stay s1 g2).list
      refine ⟨l1, j, vs, rfl, r2.int, e1, h1, h2, by rw [t1.length]; exact h3, fun p hp => ?_⟩
      refine q _ _ _ (g1.trans (g2.trans (Grow.same (same_upd hp)))) (free_grow s (g1.trans g2) hp) upd_same (((t1.rep j.toNat).ban fun b z => ?_).stay (same_stay (same_upd hp)))
      rcases z with z | rfl
      · exact .inl z
      · exact .inr hp
    | _ => exact q.elim
  | _ => cases d2 <;> exact q.elim
theorem ev_max3 [Calm wd] (c : Cw CX k wd N sc X) (B : Bt X.mg) (hg : glB sc "max" = true) (ha : EvB X wd ρ a ra) (hb : EvB X wd ρ b rb) (hd : EvB X wd ρ d rd) (he : Plain X a := by exact fun _ => rfl) (he2 : Plain X b := by exact fun _ => rfl) (he3 : Plain X d := by exact fun _ => rfl) :
    Ev X wd ρ (.Call (.Name "max" p) [a, b, d] [] pos) (ra.bind fun x => rb.bind fun y => rd.bind fun z => max3R x y z) := fun F ad σ H Q s q => by
  refine be (pe_callB (call_max3Nu c.calm) (c.gl hg).1 B.max bv_max (pa_cons pe_b (pa_cons pe_b (pa_cons pe_b pa_nil (he3 [])) (he2 [d])) (he [b, d])) (c.gl hg).2.2 (c.gl hg).2.1 (he [b, d]) (by rw [he2 [d], he3 []]; rfl)) ?_
  rw [wp_bind] at q
  refine ha F ad σ H _ s (wp_mono (fun d1 q v1 H1 g1 r1 => ?_) (fun _ _ z => z) q)
  rw [wp_bind] at q
  have s1 := s.grow g1
  refine hb F ad σ H1 _ s1 (wp_mono (fun d2 q v2 H2 g2 r2 => ?_) (fun _ _ z => z.grow g1) q)
  rw [wp_bind] at q
  have s2 := s1.grow g2
  refine hd F ad σ H2 _ s2 (wp_mono (fun d3 q v3 H3 g3 r3 => ?_) (fun _ _ z => z.grow (g1.trans g2)) q)
  cases d1 with
  | int i =>
    cases d2 with
    | int j =>
      cases d3 with
      | int l =>
        rw [r1.int, r2.int, r3.int]
        refine ⟨.int i, .int j, .int l, .int (if (if i < j then j else i) < l then l else (if i < j then j else i)), rfl, ?_, q _ _ (g1.trans (g2.trans g3)) (.int _)⟩
        unfold nuMax3 nuMax2 nuLt nuCB
        by_cases h1 : i < j
        · by_cases h2 : j < l <;> simp [h1, h2]
        · by_cases h2 : i < l <;> simp [h1, h2]
      | _ => exact q.elim
    | _ => cases d3 <;> exact q.elim
  | _ => cases d2 <;> cases d3 <;> exact q.elim
theorem itc_ok {K : PySem.W.Frag} {B : Addr → Prop} {H : Hp} {lo c : Int} {n : Nat} {S : (Addr → Prop) → Hp → Hp → Prop} : ItOk S K B (Itc lo c n) H ((List.range n).map fun (k : Nat) => PyData.int (lo + (k : Nat) * c)) := by
  have hl : ((List.range n).map fun (k : Nat) => PyData.int (lo + (k : Nat) * c)).length = n := by rw [List.length_map, List.length_range]
  intro B' hb hB
  refine ⟨fun _ => True, trivial, fun _ _ _ _ => trivial, fun H1 i _ hi => by rw [hl] at hi; exact hi, fun H1 i x H2 d _ y ed => ?_, fun H1 _ => by rw [hl]; exact Nat.le_refl _⟩
  obtain ⟨rfl, rfl⟩ := y
  rw [List.getElem?_map] at ed
  by_cases hi : i < n
  · rw [List.getElem?_range hi] at ed
    cases ed
    exact ⟨Same.refl _, .int _⟩
  · rw [List.getElem?_eq_none (by rw [List.length_range]; omega)] at ed
    cases ed
theorem evi_rngD (c : Cw CX k wd N sc X) (B : Bt X.mg) {tg : Expr} {j2 : Nat} {p1 p2 : Pos} (hg : glB sc "range" = true) (ha : EvB X wd ρ a ra) (hb : EvB X wd ρ b rb) (he : Plain X a := by exact fun _ => rfl) (he2 : Plain X b := by exact fun _ => rfl) :
    EvI X wd ρ tg (.Call (.Name "range" p) [a, b, .UnaryOp .USub (.Constant (.int 1) j2 p1) p2] [] pos) (ra.bind fun x => rb.bind fun y => rngDR x y) := fun F ad σ H Rq s q => by
  refine bi (pi_range3 (c.gl hg).1 B.range (pa_cons pe_b (pa_cons pe_b (pa_cons (pe_un un_neg pe_int) pa_nil) (he2 _)) (he _)) (he _) (by rw [he2]; rfl)) ?_
  rw [wp_bind] at q
  refine ha F ad σ H _ s (wp_mono (fun d q v H1 g1 r1 => ?_) (fun _ _ z => z) q)
  rw [wp_bind] at q
  have s1 := s.grow g1
  refine hb F ad σ H1 _ s1 (wp_mono (fun d2 q v2 H2 g2 r2 => ?_) (fun _ _ z => z.grow g1) q)
  cases d with
  | int i =>
    cases d2 with
    | int j =>
      obtain ⟨⟨h1, h2, h3, h4⟩, q⟩ := wp_ite q
      exact ⟨1, rfl, i, j, -1, (i - j).toNat, by rw [r1.int, r2.int], RgC.neg h1 h2 h3 h4, q _ _ (g1.trans g2) itc_ok⟩
    | _ => exact q.elim
  | _ => cases d2 <;> exact q.elim
end
end Pu
/-! Pge: any, all of a generator expression: the core. -/
namespace Pu
open PySem PySem.Spec PyProof.Rows L2 R GenW
section
variable {X : Cx} {pins : List (Addr × Obj)} {σ : L2.St} {H : Hp} {s : Shared}
/-- the code's table has grown -/
theorem inv_tabF {P : Addr} {ps' : Array Value} {h' : Heap} {g' : Array GenState} {d' : Drawn} {t' : Nat} (I : Inv X pins σ H s) (hP : H P = some (TabF P)) (k : ∀ b o, b ≠ P → s.heap.get? b = some o → h'.get? b = some o)
    (hm : h'.get? P = some { cls := .none, data := .fields ps' }) (ht : TriplesOk ps'.toList) (hg : AllBare g') : Inv X pins σ H { s with heap := h', gens := g', drawn := d', toks := t' } := by
  have nN : ∀ b, H b = none → b ≠ P := fun b e z => by rw [z, hP] at e; cases e
  refine I.step (g' := g') (d' := d') (ch := []) (fun b hb => absurd hb (by simp)) (fun b o _ _ _ e n => k b o (nN b n) e) (fun b o _ _ _ e n => ⟨o.slots, k b o (nN b n) e⟩)
    (fun b o _ e n => n) (fun b o _ e => ?_) (fun b xs e => e) (fun b o u e => e) (fun b qs e => ⟨#[], by rw [e]; simp⟩) (fun m hn => ?_) (fun b u e => ?_) hg
  · by_cases hb : b = P
    · rw [hb]; exact ⟨_, hm⟩
    · exact ⟨o, k b o hb e⟩
  · obtain ⟨ob, es, ep, ho, r⟩ := hn
    exact ⟨ob, es, ep, k _ ob (nN _ I.free) ho, r⟩
  · by_cases hb : b = P
    · rw [hb, hP] at e
      cases e
      rw [hb]
      exact ⟨⟨ps', hm, ht⟩, ⟨_, hm⟩, fun h1 h2 ⟨ps, e, t⟩ hh => ⟨ps, hh _ e, t⟩⟩
    · refine (I.hok b u e).stay (fun d v hd q => k d v ?_ q) (fun d q => q) fun d xs q => q
      rcases hd with z | z
      · rw [z]; exact hb
      · intro z2
        rw [z2, hP] at z
        cases z
/-- the generator's frame -/
abbrev gX (X : Cx) (A' : Around) (s : Shared) (H : Hp) (genv : Env) (fp : List Addr) (pn : List (Addr × Obj)) : Cx :=
  { X with A := A', s_0 := s, H_0 := H, env := genv, outer := X.stack, stack := genv :: X.stack, ex := fp, fn := fun _ => false, pn := pn, xe := fun _ _ => False }
theorem gen_start {scope : Scope} {own : List (Str × Nat)} {fp : List Addr} {A' : Around} {code : Value} {h' : Heap} {go : Obj} {g' : Array GenState} {tk : Nat} {itv : Value} (I : Inv X pins σ H s) (ok : BlkOk X.N X.env.scope scope own) (hN : X.N.Nodup)
    (hcell : ∀ y ∈ scope.names, y.2 ≠ .cell) (hA : X.calm = true → A'.handled = none) (hAf : A'.frames = some (genEnv scope (cloFrom X.env.cells scope.names []) s.heap.objs.size code builtinsNs X.env :: X.stack))
    (hfp : ∀ b ∈ fp, FpOk X pins H b ∧ b < s.heap.objs.size) (hn : h'.Ns s.heap.objs.size (fun y => if y = (".0" : Str) then some itv else none)) (hsb : Heap.SameBut s.heap.objs.size (s.heap.push { cls := .type "frame", data := .dict #[] }) h')
    (hgo : ∀ v, go.data ≠ .cell v) (hfr : go.isFreed = false) (hg : AllBare g') :
    Inv (gX X A' s H (genEnv scope (cloFrom X.env.cells scope.names []) s.heap.objs.size code builtinsNs X.env) fp [(h'.objs.size, go)]) [] (wipe σ (own.map (·.2))) H { s with gens := g', toks := tk, heap := h'.push go } := by
  have hfree : ∀ y ∈ scope.names, y.2 = .free → ∃ c, X.env.cells.lookup y.1 = some c := fun y hy e => by
    rcases ok.free y hy e with k | k
    · exact I.ok.has _ (.inl k)
    · exact I.ok.has _ (.inr k)
  generalize hgenv : genEnv scope (cloFrom X.env.cells scope.names []) s.heap.objs.size code builtinsNs X.env = genv at hAf ⊢
  have hsz : h'.objs.size = s.heap.objs.size + 1 := by rw [hsb.1, Heap.size_push]
  have kp' : ∀ b o, s.heap.get? b = some o → h'.get? b = some o := fun b o e => hsb.extBut b o (Nat.ne_of_lt (Heap.lt_size e)) (Heap.get?_push_of_some _ e)
  have kp : ∀ b o, s.heap.get? b = some o → (h'.push go).get? b = some o := fun b o e => Heap.get?_push_of_some _ (kp' b o e)
  have hL : genv.locals = s.heap.objs.size := by rw [← hgenv]; rfl
  have hcl : genv.cells = cloFrom X.env.cells scope.names [] := by rw [← hgenv]; rfl
  have hsc : genv.scope = scope := by rw [← hgenv]; rfl
  have cm : ∀ {y c}, (y, c) ∈ cloFrom X.env.cells scope.names [] → X.env.cells.lookup y = some c ∧ c < s.heap.objs.size := fun {y c} hm => by
    rcases cloFrom_mem hm with hm | ⟨h1, rfl⟩
    · cases hm
    · obtain ⟨c, hc⟩ := hfree _ h1 rfl
      rw [hc]
      obtain ⟨w, z⟩ := I.cell _ _ hc
      exact ⟨rfl, z.lt⟩
  have mem : ∀ {y c}, genv.cells.lookup y = some c → X.env.cells.lookup y = some c ∧ c < s.heap.objs.size := fun {y c} e => by
    rw [hcl] at e
    exact cm (PySem.mem_of_lookup e)
  have look : ∀ {y}, scope.names.lookup y = some .free → ∃ c, genv.cells.lookup y = some c ∧ X.env.cells.lookup y = some c := fun {y} hl => by
    have hy : (y, NameKind.free) ∈ scope.names := PySem.mem_of_lookup hl
    obtain ⟨c', e'⟩ := mem_lookup (cloFrom_has (cells := X.env.cells) (acc := []) hy)
    rw [← hcl] at e'
    exact ⟨c', e', (mem e').1⟩
  have okG : (gX X A' s H genv fp [(h'.objs.size, go)]).Ok := by
    refine ⟨I.ok.mod, by show genv.scope.kind = _; rw [hsc]; exact ok.kind, by show genv.globals = _; rw [← hgenv]; exact I.ok.glob, by show genv.builtins = _; rw [← hgenv]; rfl, by show s.heap.objs.size ≤ genv.locals; rw [hL]; exact Nat.le_refl _,
      fun y z c e1 e2 => I.ok.inj y z c (mem e1).1 (mem e2).1, fun y hy => ?_, fun y c z e => absurd z (by simp), hA, hAf, .inr ⟨rfl, by show genv.frame = some genv.locals; rw [hL, ← hgenv]; rfl⟩, fun b hb => ⟨?_, fun y c e z => ?_⟩, I.bs, Nat.le_trans I.ok.bsz I.sz, fun b o e hb => ?_, fun b hb z => ?_, I.stack, I.stkFree⟩
    · show ∃ c, genv.cells.lookup y = some c
      rcases hy with hy | hy
      · have hy : genv.scope.names.lookup y = some .cell := hy
        rw [hsc] at hy
        exact absurd rfl (hcell _ (PySem.mem_of_lookup hy))
      · have hy : genv.scope.names.lookup y = some .free := hy
        rw [hsc] at hy
        obtain ⟨c, h1, _⟩ := look hy
        exact ⟨c, h1⟩
    · show b ≠ genv.locals
      rw [hL]; exact Nat.ne_of_lt (hfp b hb).2
    · have e : genv.cells.lookup y = some c := e
      exact (hfp b hb).1.2.2.2.2.1 y c (mem e).1 z
    · rcases (hfp b hb).1.2.2.2.1 with z | z
      · exact I.ok.noex b o e z
      · exact absurd (Nat.lt_of_lt_of_le (Heap.lt_size e) (Nat.le_trans I.ok.bsz z)) (Nat.lt_irrefl _)
    · rcases List.mem_cons.mp (I.stkSub b z) with z | z
      · exact (hfp b hb).1.2.1 z
      · exact (hfp b hb).1.2.2.1 z
  refine ⟨okG, rfl, hg, Un.kept kp, ⟨fun y => if y = (".0" : Str) then some itv else none, ?_, fun i y av e1 e2 e3 => ?_⟩, fun y c e => ?_, ?_, fun y c e => ?_, fun p hp => ?_, I.hok.kept kp, by rw [wipe_length]; exact I.len⟩
  · show Heap.Ns _ genv.locals _
    rw [hL]
    exact hn.push _
  · obtain ⟨e2, hne⟩ := wipe_some e2
    have no : ∀ k, scope.names.lookup y = some k → ¬ (k = .local ∨ k = .cell) := fun k e hh => by
      rcases ok.own _ (PySem.mem_of_lookup e) hh with e' | e'
      · obtain ⟨p, hp, hpy⟩ := List.mem_map.mp e'
        have e3 := ok.ix p hp
        have : p.1 = y := hpy
        rw [this] at e3
        exact hne (List.mem_map.mpr ⟨p, hp, nodup_ix hN e3 e1⟩)
      · exact e' (List.mem_of_getElem? e1)
    have hfr : scope.names.lookup y = some .free := by
      have e3 : Vis genv.scope y := e3
      rw [hsc] at e3
      rcases e3 with e3 | e3 | e3
      · exact absurd (.inl rfl) (no _ e3)
      · exact absurd (.inr rfl) (no _ e3)
      · exact e3
    obtain ⟨m, hn, hl⟩ := I.loc
    have hvis : Vis X.env.scope y := (ok.free _ (PySem.mem_of_lookup hfr) rfl).elim (fun k => .inr (.inl k)) (fun k => .inr (.inr k))
    obtain ⟨w, r, q⟩ := hl i y av e1 e2 hvis
    refine ⟨w, r, .inr ⟨.inr (by show genv.scope.names.lookup y = _; rw [hsc]; exact hfr), ?_⟩⟩
    obtain ⟨c, h1, h2⟩ := look hfr
    rcases q with ⟨k, _⟩ | ⟨_, c', e', z⟩
    · have k : X.env.scope.names.lookup y = some .local := k
      rcases ok.free _ (PySem.mem_of_lookup hfr) rfl with k' | k' <;> rw [show X.env.scope.names.lookup y = _ from k'] at k <;> cases k
    · rw [h2] at e'; cases e'
      exact ⟨c, h1, z.keeps kp⟩
  · have e : genv.cells.lookup y = some c := e
    obtain ⟨w, z⟩ := I.cell y c (mem e).1
    exact ⟨w, z.keeps kp⟩
  · show H genv.locals = none
    rw [hL]; exact I.hok.fresh (Nat.le_refl _)
  · have e : genv.cells.lookup y = some c := e
    exact I.freeC y c (mem e).1
  · have hp : p = (h'.objs.size, go) := by simpa using hp
    subst hp
    refine ⟨Heap.get?_push_size _ hfr, I.hok.fresh (by omega), by show h'.objs.size ≠ genv.locals; rw [hL]; omega, fun z => ?_, hgo⟩
    have z : h'.objs.size ∈ frs X.stack := z
    obtain ⟨_, o, ho, _⟩ := I.stack.mem z
    have t : h'.objs.size < s.heap.objs.size := Heap.lt_size ho
    rw [hsz] at t
    exact absurd (Nat.lt_of_succ_lt t) (Nat.lt_irrefl _)
end
/-! ### the segments -/
/-- the generator's state ahead of item i -/
structure GSt (Y : Cx) (σw : L2.St) (tn : Nat → Heap → Prop) (fp : List Addr) (W : Nat → Nat → Hp → Prop) (i m : Nat) (H : Hp) (s : Shared) : Prop where
  I : Inv Y [] σw H s
  t : tn i s.heap
  n : ∀ b ∈ fp, H b = none
  w : W i m H
/-- what a turn is to do -/
def GTurn (J : It) (g : TG) (te : TE) (vs : List Nat) (σw : L2.St) (W : Nat → Nat → Hp → Prop) (Qf Qt : Hp → Prop) (st : Bool) : Prop := ∀ i m H, W i m H → (J.stop i H ∧ Qf H) ∨ (J.go i H ∧ 0 < m ∧ ∃ Nx : Hp → Prop, (∀ H', Nx H' → ∃ m', m' < m ∧ W (i + 1) m' H') ∧
  ∀ x H', J.yld i H x H' → g x σw H' fun σ2 H2 => wipe σ2 vs = σw ∧ te σ2 H2 fun y H4 => ∃ b, y = .bl b ∧ if b = st then Qt H4 else Nx H4)
section
variable {P : Program} {w : World} {Y : Cx} {σw : L2.St} {elt iter tg : Expr} {gpos : Pos} {scope : Scope} {it : Addr} {genv : Env} {B : Around} {J : It} {fp : List Addr} {tn : Nat → Heap → Prop} {W : Nat → Nat → Hp → Prop} {vs : List Nat} {g : TG} {te : TE} {Qf Qt : Hp → Prop} {st : Bool}
abbrev gEx (elt iter tg : Expr) (gpos : Pos) (scope : Scope) : Expr := .GeneratorExp elt [⟨tg, iter, [], 0⟩] scope gpos
abbrev gLoop (elt iter tg : Expr) (gpos : Pos) (scope : Scope) (it : Addr) (genv : Env) : Code := .compLoop (gEx elt iter tg gpos scope) 0 (.ref it) .none genv
def gEnd (Y : Cx) (σw : L2.St) (Qf : Hp → Prop) : GenEnd := fun _ _ r s₁ => r = .ok .next ∧ ∃ H', Inv Y [] σw H' s₁ ∧ Qf H'
def gPro (Y : Cx) (σw : L2.St) (tn : Nat → Heap → Prop) (fp : List Addr) (W : Nat → Nat → Hp → Prop) (Qt : Hp → Prop) (st : Bool) : Protocol := fun k _ v s kap => ∃ b H', v = .bool b ∧
  if b = st then Inv Y [] σw H' s ∧ Qt H' else ∃ i m, m ≤ k ∧ GSt Y σw tn fp W i m H' s ∧ ∀ s'', GSt Y σw tn fp W i m H' s'' → kap (.send .none) s''
theorem gen_seg (hP : Y.prog = P) (hw : Y.w = w) (hc : Y.calm = true) (hA : Y.A = B.over (gLoop elt iter tg gpos scope it genv) []) (hE : Y.env = genv) (hco : genv.scope.isCoroutine = false) (pg : PG Y tg g)
    (T : Turn P w Y.K tg J fp it tn) (hfp : ∀ (H : Hp), (∀ b ∈ fp, H b = none) → ∀ σ s, Inv Y [] σ H s → ∀ b ∈ fp, FpOk Y [] H b) (pe : PE Y elt te) (hpx : Y.xe = fun _ _ => False)
    (turn : GTurn J g te vs σw W Qf Qt st) : ∀ (m n : Nat) (i : Nat) (H : Hp) (s₀ s : Shared), m ≤ n → GSt Y σw tn fp W i m H s →
    Seg (model P w) B (gEnd Y σw Qf) (gPro Y σw tn fp W Qt st) n s₀ (gLoop elt iter tg gpos scope it genv) ((model P w).den (gLoop elt iter tg gpos scope it genv)) [] s := by
  subst hP hw
  intro m
  induction m using Nat.strongRecOn with
  | ind m ih =>
  intro n i H s₀ s hmn S
  show Seg _ B _ _ _ s₀ _ ((compTurn (gEx elt iter tg gpos scope) 0 (.ref it) .none genv).onRaise (leaving genv)) [] s
  rw [compTurn_gen, Sem.onRaise_eq_wrap]
  refine seg_bind_wrap (wpAny_standAt ?_)
  rcases turn i m H S.w with ⟨stop, qf⟩ | ⟨go, m0, Nx, hNx, step⟩
  · have td := T.done Y rfl rfl rfl hc i [] s σw H (fun _ _ => False) S.I (hfp H S.n _ _ S.I) S.t stop
    rw [hA] at td
    refine seg_bind_wrap (wpAny_mono td (fun r s6 ⟨hr, I6⟩ => ?_) fun _ _ z => z.elim)
    subst hr
    exact seg_end (.ok .next) ⟨rfl, H, I6, qf⟩
  · have ti := T.item Y rfl rfl rfl hc i [] s σw H (fun _ _ => False) S.I (hfp H S.n _ _ S.I) S.t go
    rw [hA] at ti
    refine seg_bind_wrap (wpAny_mono ti (fun r s6 ⟨u, hr, h6⟩ => ?_) fun _ _ z => z.elim)
    subst hr
    refine seg_bind_wrap (wpAny_mono h6 (fun _ s7 ⟨v, H7, I7, r7, y7, st7, n7⟩ => ?_) fun _ _ z => z.elim)
    have I7' := I7.pinned (hfp H7 n7 _ _ I7) (T.obj _ _ st7)
    have pg := pg.run _ s7 _ H7 v u (fun σ8 H8 => wipe σ8 vs = σw ∧ te σ8 H8 fun y H4 => ∃ b, y = .bl b ∧ if b = st then Qt H4 else Nx H4) I7' r7 (step v H7 y7)
    rw [hA, hE, hpx] at pg
    refine seg_bind_wrap (wpAny_mono pg (fun _ s8 ⟨σ8, H8, I8, e8, q8⟩ => ?_) fun _ _ z => z.elim)
    refine seg_bind_wrap (wpAny_pure ?_)
    simp only [if_true]
    have hy : ∀ v, yieldOut genv v = yieldValue v := fun v => by simp only [yieldOut, hco, Bool.false_eq_true, if_false]
    simp only [hy]
    rw [Sem.bind_eq_wrap', Sem.bind_eq_wrap', Sem.wrap_wrap, Sem.wrap_wrap]
    have pr := pe.run _ s8 _ H8 _ I8 q8
    rw [hA, hE, hpx] at pr
    refine seg_wrap (wpAny_mono pr (fun yv s9 ⟨y, H9, I9, r9, bb, eb, q9⟩ => ?_) fun _ _ z => z.elim)
    subst eb
    obtain rfl : yv = Value.bool bb := r9
    obtain ⟨n', rfl⟩ : ∃ n', n = n' + 1 := ⟨n - 1, by omega⟩
    have pin' : ∀ b ∈ fp, ∀ o, s7.heap.get? b = some o → s9.heap.get? b = some o ∧ H9 b = none := fun b hb o e =>
      let z := I9.pin (b, o) (List.mem_append_right _ (List.mem_append_right _ (mem_pinsAt hb e)))
      ⟨z.1, z.2.1⟩
    have I10 : Inv Y [] σw H9 s9 := (I9.unpinned (pins := [])).weak (by rw [← e8, wipe_length]) (fun j v' e => by
      rw [← e8] at e
      exact (wipe_some e).1)
    refine seg_at (seg_yield rfl rfl rfl ⟨bb, H9, rfl, ?_⟩)
    by_cases hb : bb = st
    · rw [if_pos hb] at q9 ⊢
      exact ⟨I10, q9⟩
    · rw [if_neg hb] at q9 ⊢
      obtain ⟨m', hm, w'⟩ := hNx _ q9
      refine ⟨i + 1, m', by omega, ⟨I10, T.keep _ _ _ st7 fun b hb o e => (pin' b hb o e).1, fun b hb => ?_, w'⟩, fun s'' S'' => ?_⟩
      · obtain ⟨o, e, _⟩ := T.obj _ _ st7 b hb
        exact (pin' b hb o e).2
      · exact seg_again rfl (ih m' hm n' (i + 1) H9 s'' s'' (by omega) S'')
theorem gen_goes (hP : Y.prog = P) (hw : Y.w = w) (hc : Y.calm = true) (hA : Y.A = B.over (gLoop elt iter tg gpos scope it genv) []) (hE : Y.env = genv) (hco : genv.scope.isCoroutine = false) (pg : PG Y tg g)
    (T : Turn P w Y.K tg J fp it tn) (hfp : ∀ (H : Hp), (∀ b ∈ fp, H b = none) → ∀ σ s, Inv Y [] σ H s → ∀ b ∈ fp, FpOk Y [] H b) (pe : PE Y elt te) (hpx : Y.xe = fun _ _ => False)
    (turn : GTurn J g te vs σw W Qf Qt st) {m n i : Nat} {H : Hp} {s : Shared} (hmn : m ≤ n) (S : GSt Y σw tn fp W i m H s) :
    GenState.Goes (model P w) B (gEnd Y σw Qf) (gPro Y σw tn fp W Qt st) n (.fresh (.compStart (gEx elt iter tg gpos scope) 0 (.ref it) .none genv)) (.send .none) s := by
  have loop := fun (s₀ : Shared) => gen_seg (gpos := gpos) hP hw hc hA hE hco pg T hfp pe hpx turn m n i H s₀ s hmn S
  refine ⟨rfl, ?_⟩
  show Seg _ B _ _ _ s _ ((compStart (gEx elt iter tg gpos scope) 0 (.ref it) .none genv).onRaise (leaving genv)) [] s
  unfold compStart
  rw [Sem.onRaise_eq_wrap]
  show Seg _ B _ _ _ s _ ((ask >>= _).wrap _ _ _ _) [] s
  refine seg_bind_wrap (wpAny_askSetting ?_)
  split
  · exact seg_again rfl (loop s)
  · first
      | exact seg_bind_wrap (wpAny_rule (seg_bind_wrap (wpAny_standAt (seg_bind_wrap (T.self _ _ _ _ _ S.t (seg_again rfl (loop s)))))))
      | (refine seg_bind_wrap (wpAny_rule ?_); show Seg _ B _ _ _ s _ ((standAt iter.pos >>= _).wrap _ _ _ _) [] s; exact seg_bind_wrap (wpAny_standAt (seg_bind_wrap (T.self _ _ _ _ _ S.t (seg_again rfl (loop s))))))
/-! ### the loop of any, all -/
theorem any_loopG {A : Around} {E : Value → Shared → Prop} {R : Result → Shared → Prop} {a : Addr} (St : Nat → Shared → Prop)
    (turn : ∀ n s, St n s → wpAny (model P w) A.in1 (pyNext (.ref a)) (fun r s' => match r with
      | none => R (.ok (.ret (.bool false))) s'
      | some v => ∃ b, v = .bool b ∧ if b = true then R (.ok (.ret (.bool true))) s' else ∃ m, m < n ∧ St m s') (fun _ _ => False) s) : ∀ (n : Nat) (s : Shared), St n s → codeAny (model P w) A (.builtin "any.loop" ⟨[.ref a], []⟩) R s := by
  intro n
  induction n using Nat.strongRecOn with
  | ind n ih =>
  intro s S
  refine codeAny_builtin F.entry_any_loop ?_
  rw [Around.under_plainId F.plain_any_loop _]
  show wpAny _ A.in1 (pyNext (.ref a) >>= _) _ _ s
  refine wpAny_bind (wpAny_mono (turn n s S) (fun r s' h => ?_) fun _ _ z => z.elim)
  cases r with
  | none => exact wpAny_bind (wpAny_rule (wpAny_pure h))
  | some v =>
    obtain ⟨b, rfl, h⟩ := h
    refine wpAny_bind (wpAny_holding (wpAny_truthy_bool ?_))
    refine wpAny_bind (wpAny_letGo ?_)
    cases b with
    | false =>
      simp only [Bool.false_eq_true, if_false] at h ⊢
      obtain ⟨m, hm, S'⟩ := h
      exact wpAny_pure ⟨plainId_quiet F.plain_any_loop _, ih m hm s' S'⟩
    | true =>
      simp only [if_true] at h ⊢
      exact wpAny_bind (wpAny_rule (wpAny_pure h))
theorem all_loopG {A : Around} {E : Value → Shared → Prop} {R : Result → Shared → Prop} {a : Addr} (St : Nat → Shared → Prop)
    (turn : ∀ n s, St n s → wpAny (model P w) A.in1 (pyNext (.ref a)) (fun r s' => match r with
      | none => R (.ok (.ret (.bool true))) s'
      | some v => ∃ b, v = .bool b ∧ if b = false then R (.ok (.ret (.bool false))) s' else ∃ m, m < n ∧ St m s') (fun _ _ => False) s) : ∀ (n : Nat) (s : Shared), St n s → codeAny (model P w) A (.builtin "all.loop" ⟨[.ref a], []⟩) R s := by
  intro n
  induction n using Nat.strongRecOn with
  | ind n ih =>
  intro s S
  refine codeAny_builtin F.entry_all_loop ?_
  rw [Around.under_plainId F.plain_all_loop _]
  show wpAny _ A.in1 (pyNext (.ref a) >>= _) _ _ s
  refine wpAny_bind (wpAny_mono (turn n s S) (fun r s' h => ?_) fun _ _ z => z.elim)
  cases r with
  | none => exact wpAny_bind (wpAny_rule (wpAny_pure h))
  | some v =>
    obtain ⟨b, rfl, h⟩ := h
    refine wpAny_bind (wpAny_holding (wpAny_truthy_bool ?_))
    refine wpAny_bind (wpAny_letGo ?_)
    cases b with
    | true =>
      rw [if_neg (by decide)] at h
      simp only [if_true]
      obtain ⟨m, hm, S'⟩ := h
      exact wpAny_pure ⟨plainId_quiet F.plain_all_loop _, ih m hm s' S'⟩
    | false =>
      rw [if_pos rfl] at h
      simp only [Bool.false_eq_true, if_false]
      exact wpAny_bind (wpAny_rule (wpAny_pure h))
end
end Pu
/-! Pgf: any, all of a generator expression: the rule. -/
namespace Pu
open PySem PySem.Spec PyProof.Rows L2 R GenW
section
variable {Y : Cx} {σw : L2.St} {tn : Nat → Heap → Prop} {fp : List Addr} {W : Nat → Nat → Hp → Prop}
theorem inv_gens {pins : List (Addr × Obj)} {σ : L2.St} {H : Hp} {s : Shared} (I : Inv Y pins σ H s) {h' : Heap} {g' : Array GenState} (k : ∀ b o, s.heap.get? b = some o → h'.get? b = some o) (hg : AllBare g') : Inv Y pins σ H { s with heap := h', gens := g' } := by
  have z := I.kept (h' := h') (t' := s.toks) k
  exact ⟨z.ok, z.os, hg, z.base, z.loc, z.cell, z.free, z.freeC, z.pin, z.hok, z.len⟩
theorem GSt.gens {i m : Nat} {H : Hp} {s : Shared} (S : GSt Y σw tn fp W i m H s) {g : Nat} {x : GenState} (hx : x.bare = true) : GSt Y σw tn fp W i m H (s.setGen g x) :=
  ⟨inv_gens S.I (fun _ _ e => e) (allBare_setGen S.I.bare hx), S.t, S.n, S.w⟩
/-- what the generator's turn leaves for any, all -/
structure LSt (P : Program) (w : World) (Y : Cx) (B : Around) (σw : L2.St) (tn : Nat → Heap → Prop) (fp : List Addr) (W : Nat → Nat → Hp → Prop) (Qf Qt : Hp → Prop) (st : Bool) (g : Nat) (n : Nat) (s : Shared) : Prop where
  ex : ∃ i m H, m ≤ n ∧ GSt Y σw tn fp W i m H s ∧ ∃ gs, s.gens[g]? = some gs ∧ ∀ s'', GSt Y σw tn fp W i m H s'' → GenState.Goes (model P w) B (gEnd Y σw Qf) (gPro Y σw tn fp W Qt st) n gs (.send .none) s''
theorem gen_turn {P : Program} {w : World} {A : Around} {Qf Qt : Hp → Prop} {st : Bool} {a : Addr} {g : Nat} {go : Obj} (hh : A.handled = none) (hroom : A.depth < recursionLimit) (hpn : (a, go) ∈ Y.pn) (hgo : ∀ h : Heap, h.get? a = some go → h.IsGen a g) {n : Nat} {s : Shared}
    (L : LSt P w Y A.in1 σw tn fp W Qf Qt st g n s) : wpAny (model P w) A (pyNext (.ref a)) (fun r s' => match r with
      | none => ∃ H', Inv Y [] σw H' s' ∧ Qf H'
      | some v => ∃ b, v = .bool b ∧ if b = st then ∃ H', Inv Y [] σw H' s' ∧ Qt H' else ∃ m, m < n ∧ LSt P w Y A.in1 σw tn fp W Qf Qt st g m s') (fun _ _ => False) s := by
  obtain ⟨i, m, H, hmn, S, gs, hgs, hgoes⟩ := L.ex
  have hlt : g + 1 ≤ s.gens.size := (Array.getElem?_eq_some_iff.mp hgs).1
  have hg : s.heap.IsGen a g := hgo _ (S.I.pin (a, go) (List.mem_append_left _ hpn)).1
  refine wpAny_gsz (n := g + 1) hlt ?_
  refine wpAny_pyNext_genexpQ (P := fun _ _ s₁ => ∃ H', Inv Y [] σw H' s₁ ∧ Qf H') (Y := gPro Y σw tn fp W Qt st) (n := n) hh S.I.nolimit hroom hg hgs (hgoes _ (S.gens rfl)) (fun v s₁ gs' hb hv => ?_) (fun s₁ hp h' hk => ?_)
  · intro hsz
    rw [setGen_size] at hsz
    obtain ⟨b, H', rfl, hv⟩ := hv
    refine ⟨b, rfl, ?_⟩
    by_cases hbs : b = st
    · rw [if_pos hbs] at hv ⊢
      exact ⟨H', inv_gens hv.1 (fun _ _ e => e) (allBare_setGen hv.1.bare hb), hv.2⟩
    · rw [if_neg hbs] at hv ⊢
      obtain ⟨i', m', hm', S', kap⟩ := hv
      cases n with
      | zero => exact (kap s₁ S').elim
      | succ n => exact ⟨n, Nat.lt_succ_self n, ⟨i', m', H', hm', S'.gens hb, gs', setGen_at hsz, fun s'' S'' => kap s'' S''⟩⟩
  · intro _
    obtain ⟨H', I', q⟩ := hp
    exact ⟨H', inv_gens (s := s₁) I' hk (allBare_setGen I'.bare rfl), q⟩
end
/-- the generator's context -/
abbrev gEnvOf (X : Cx) (scope : Scope) (C : Addr) (code : Value) : Env := genEnv scope (cloFrom X.env.cells scope.names []) C code builtinsNs X.env
abbrev gAr (X : Cx) (elt iter tg : Expr) (gpos : Pos) (scope : Scope) (C : Addr) (code : Value) (it : Addr) : Around := X.A.in1.in1.over (gLoop elt iter tg gpos scope it (gEnvOf X scope C code)) []
abbrev gY (X : Cx) (elt iter tg : Expr) (gpos : Pos) (scope : Scope) (s : Shared) (H : Hp) (C : Addr) (code : Value) (it : Addr) (fp : List Addr) (pn : List (Addr × Obj)) : Cx :=
  gX X (gAr X elt iter tg gpos scope C code it) s H (gEnvOf X scope C code) fp pn
section
variable {X : Cx} {pins : List (Addr × Obj)} {σ : L2.St} {H : Hp} {s : Shared} {elt iter tg : Expr} {gpos pos p : Pos} {scope : Scope} {c Pt : Addr} {wi : TI} {g : TG} {te : TE} {own : List (Str × Nat)} {vs : List Nat} {st : Bool}
def tGen (Pt : Addr) (wi : TI) (g : TG) (te : TE) (vs : List Nat) (st : Bool) : TE := fun σ H Q => wi σ H fun J H1 => H1 Pt = some (TabF Pt) ∧ ∃ W : Nat → Nat → Hp → Prop, (∃ m, W 0 m H1) ∧
  GTurn J g te vs (wipe σ vs) W (fun H => Q (.bl (!st)) H) (fun H => Q (.bl st) H) st
theorem gAr_frames {C : Addr} {code : Value} {it : Addr} (h : X.A.frames = some X.stack) : (gAr X elt iter tg gpos scope C code it).frames = some (gEnvOf X scope C code :: X.stack) := by
  unfold gAr Around.over
  simp only [pushEnvs_eq]
  rw [show X.A.in1.in1.frames = X.A.frames from rfl, h]
  rfl
theorem gAr_handled {C : Addr} {code : Value} {it : Addr} (h : X.A.handled = none) : (gAr X elt iter tg gpos scope C code it).handled = none := h
theorem gen_val {Q' : Value → Shared → Prop} {Qf Qt : Hp → Prop} (hr : X.A.handled = none) (hd : X.A.depth < recursionLimit) (hc : X.calm = true) (TB : GxR.TabB X.base X.mg c Pt) (hcode : X.env.code = .ref c) (ok : BlkOk X.N X.env.scope scope own) (hN : X.N.Nodup)
    (hcell : ∀ y ∈ scope.names, y.2 ≠ .cell) (h0 : scope.names.lookup (".0" : Str) = some NameKind.local) (hco : scope.isCoroutine = false)
    (hi : PI X tg iter wi) (hg : ∀ s H C code it fp pn, PG (gY X elt iter tg gpos scope s H C code it fp pn) tg g) (he : ∀ s H C code it fp pn, PE (gY X elt iter tg gpos scope s H C code it fp pn) elt te) (hs : ∀ v, genFold iter X.env v = pure v) (I : Inv X pins σ H s)
    (h : wi σ H fun J H1 => H1 Pt = some (TabF Pt) ∧ ∃ W : Nat → Nat → Hp → Prop, (∃ m, W 0 m H1) ∧ GTurn J g te (own.map (·.2)) (wipe σ (own.map (·.2))) W Qf Qt st)
    (hQ : ∀ s4 H1 C code it fp a go g s5 n tn W, Inv X pins σ H1 s4 → (∀ b ∈ fp, FpOk X pins H1 b) → (∀ h : Heap, h.get? a = some go → h.IsGen a g) → s4.os = s5.os →
      LSt X.prog X.w (gY X elt iter tg gpos scope s4 H1 C code it fp [(a, go)]) X.A.in1.in1 (wipe σ (own.map (·.2))) tn fp W Qf Qt st g n s5 → Q' (.ref a) s5) :
    wpAny (model X.prog X.w) X.A (eval (gEx elt iter tg gpos scope) X.env) Q' X.xe s := by
  have hfree : ∀ y ∈ scope.names, y.2 = .free → ∃ c, X.env.cells.lookup y.1 = some c := fun y hy e => by
    rcases ok.free y hy e with k | k
    · exact I.ok.has _ (.inl k)
    · exact I.ok.has _ (.inr k)
  refine wpAny_GeneratorExp_make hco (closure_ok hfree) hcell h0 ok.kind hd ?_ hs
  refine thn (hi.run pins s σ H _ I h) fun xv s1 hx1 => thn hx1 fun itv s2 h2 => ?_
  obtain ⟨it, fp, tn, J, H1, e, I1, T, st2, f2, hP, W, ⟨m0, w0⟩, turn⟩ := h2
  subst e
  refine ⟨I1.nolimit, ?_⟩
  obtain ⟨⟨ps, hPs, ht⟩, _, _⟩ := I1.hok Pt _ hP
  have cd : PySem.W.CodeHd s2.heap c Pt := TB.code.keeps fun b u e => I1.bk b u e
  have cont : ∀ (code : Value) (h3 : Heap) (tk : Nat) (ps' : Array Value), Heap.ExtBut Pt s2.heap h3 → h3.get? Pt = some { cls := .none, data := .fields ps' } → TriplesOk ps'.toList →
      wpAny (model X.prog X.w) X.A (builtinsFor X.env.globals X.env.builtins) (fun bi s₄ =>
        ∀ h', h'.Ns s₄.heap.objs.size (fun y => if y = ".0" then some (.ref it) else none) → Heap.SameBut s₄.heap.objs.size (s₄.heap.push { cls := .type "frame", data := .dict #[] }) h' →
          Q' (.ref h'.objs.size) { s₄ with
            gens := s₄.gens.push (.fresh (.compStart (.GeneratorExp elt [⟨tg, iter, [], 0⟩] scope gpos) 0 (.ref it) .none (genEnv scope (cloFrom X.env.cells scope.names []) s₄.heap.objs.size code bi X.env))),
            toks := s₄.toks + 1 + 1 + 1,
            heap := h'.push { cls := .type "generator", data := .fields #[.int s₄.gens.size 0, .str "<genexpr>" (s₄.toks + 1), .str (X.env.qual ++ "<genexpr>") (s₄.toks + 1 + 1)] } }) X.xe { s2 with heap := h3, toks := tk } := by
    intro code h3 tk ps' hx3 hP3 ht3
    have I3 : Inv X pins σ H1 { s2 with heap := h3, toks := tk } := inv_tabF (g' := s2.gens) (d' := s2.drawn) (t' := tk) I1 hP (fun b o hb e => hx3 b o hb e) hP3 ht3 I1.bare
    obtain ⟨bm, ob, e1, e2, e3, e4, e5, e6, e7, e8⟩ := TB.bm
    refine wpAny_builtinsFor (m := X.mg) (by rw [I3.ok.glob]; exact I3.ok.mod.glob.keeps I3.bk) e1 e2 (I3.bk _ _ e5) e6 e7 e8 ?_
    have tn3 : tn 0 h3 := T.keep _ _ _ st2 fun b hb o e => hx3 b o (fun z => by have := (f2 b hb).1; rw [z, hP] at this; cases this) e
    have tn3 : tn 0 ({ s2 with heap := h3, toks := tk } : Shared).heap := tn3
    generalize ({ s2 with heap := h3, toks := tk } : Shared) = s4 at I3 tn3 ⊢
    intro h' hn' hs'
    have g1 : ∀ v, ({ cls := .type "generator", data := .fields #[.int s4.gens.size 0, .str "<genexpr>" (s4.toks + 1), .str (X.env.qual ++ "<genexpr>") (s4.toks + 1 + 1)] } : Obj).data ≠ .cell v := fun v z => nomatch z
    have g2 : ({ cls := .type "generator", data := .fields #[.int s4.gens.size 0, .str "<genexpr>" (s4.toks + 1), .str (X.env.qual ++ "<genexpr>") (s4.toks + 1 + 1)] } : Obj).isFreed = false := rfl
    have g3 : ∀ (a : Addr) (h : Heap), h.get? a = some ({ cls := .type "generator", data := .fields #[.int s4.gens.size 0, .str "<genexpr>" (s4.toks + 1), .str (X.env.qual ++ "<genexpr>") (s4.toks + 1 + 1)] } : Obj) → h.IsGen a s4.gens.size := fun a h e => ⟨_, _, _, e, rfl, rfl, rfl⟩
    revert g1 g2 g3
    generalize ({ cls := .type "generator", data := .fields #[.int s4.gens.size 0, .str "<genexpr>" (s4.toks + 1), .str (X.env.qual ++ "<genexpr>") (s4.toks + 1 + 1)] } : Obj) = go
    intro g1 g2 g3
    have hbare : AllBare (s4.gens.push (.fresh (.compStart (.GeneratorExp elt [⟨tg, iter, [], 0⟩] scope gpos) 0 (.ref it) .none (genEnv scope (cloFrom X.env.cells scope.names []) s4.heap.objs.size code builtinsNs X.env)))) := I3.bare.push rfl
    have f3 : ∀ b ∈ fp, FpOk X pins H1 b ∧ b < s4.heap.objs.size := fun b hb => by
      obtain ⟨o, e, _⟩ := T.obj _ _ tn3 b hb
      exact ⟨f2 b hb, Heap.lt_size e⟩
    have I5 := gen_start (A' := gAr X elt iter tg gpos scope s4.heap.objs.size code it) (code := code) (own := own) (tk := s4.toks + 1 + 1 + 1) (go := go) I3 ok hN hcell (fun _ => gAr_handled hr) (gAr_frames I3.ok.frames) f3 hn' hs' g1 g2 hbare
    have kp : ∀ b o, s4.heap.get? b = some o → (h'.push go).get? b = some o :=
      fun b o e => Heap.get?_push_of_some _ (hs'.extBut b o (Nat.ne_of_lt (Heap.lt_size e)) (Heap.get?_push_of_some _ e))
    refine hQ s4 H1 s4.heap.objs.size code it fp h'.objs.size go s4.gens.size _ m0 tn W I3 f2 (g3 _) rfl ?_
    refine ⟨0, m0, H1, Nat.le_refl _, ⟨I5, T.keep _ _ _ tn3 fun b _ o e => kp b o e, fun b hb => (f2 b hb).1, w0⟩, _, Array.getElem?_push_size .., fun s'' S'' => ?_⟩
    refine gen_goes (P := X.prog) (w := X.w) (Y := gY X elt iter tg gpos scope s4 H1 s4.heap.objs.size code it fp [(h'.objs.size, go)]) (genv := gEnvOf X scope s4.heap.objs.size code) (B := X.A.in1.in1) (gpos := gpos) (elt := elt) (iter := iter) (te := te) (st := st) (Qf := Qf) (Qt := Qt) rfl rfl hc rfl rfl hco (hg s4 H1 s4.heap.objs.size code it fp _) T (fun H' hn σ' s' I' b hb => ⟨hn b hb, (I'.ok.exf b hb).1, I'.ok.exfs b hb, .inl hb, fun y c e => (I'.ok.exf b hb).2 y c e, fun q hq => ?_⟩)
        (he s4 H1 s4.heap.objs.size code it fp _) rfl turn (Nat.le_refl m0) S''
    have hq' : q = (h'.objs.size, go) := by simpa using hq
    rw [hq']
    intro z
    have z : h'.objs.size = b := z
    have hb2 := (f3 b hb).2
    have hsz : h'.objs.size = s4.heap.objs.size + 1 := by rw [hs'.1, Heap.size_push]
    rw [← z, hsz] at hb2
    exact absurd (Nat.lt_of_succ_lt hb2) (Nat.lt_irrefl _)
  cases hf : codeAmong gpos ps.toList with
  | none =>
    refine wpAny_genexprCodeX hcode (cd.code hPs ht) (cd.tab hPs) hf fun c' h' tk hx3 hge hlt hco' _ htab' _ => ?_
    obtain ⟨o1, vs, f1, tf, fl, tg, inF, tx, tt, op, _, _, _, _, _, _, _, _, _, htr, _⟩ := hco'
    exact cont _ h' tk _ hx3 htab'.2 htr
  | some cv =>
    refine wpAny_genexprCode_hit hcode (cd.code hPs ht) hf ?_
    exact cont cv s2.heap s2.toks ps (Heap.ExtBut.refl _ _) hPs ht
theorem pe_anyG (hr : X.A.handled = none) (hd : X.A.depth < recursionLimit) (hc : X.calm = true) (hgl : Gl X "any") (hm : X.mg "any" = none) (TB : GxR.TabB X.base X.mg c Pt) (hcode : X.env.code = .ref c) (ok : BlkOk X.N X.env.scope scope own) (hN : X.N.Nodup)
    (hcell : ∀ y ∈ scope.names, y.2 ≠ .cell) (h0 : scope.names.lookup (".0" : Str) = some NameKind.local) (hco : scope.isCoroutine = false)
    (hi : PI X tg iter wi) (hg : ∀ s H C code it fp pn, PG (gY X elt iter tg gpos scope s H C code it fp pn) tg g) (he : ∀ s H C code it fp pn, PE (gY X elt iter tg gpos scope s H C code it fp pn) elt te) (hs : ∀ v, genFold iter X.env v = pure v)
    (hse : starEach [gEx elt iter tg gpos scope] X.env = (false, eval (gEx elt iter tg gpos scope) X.env) :: starEach [] X.env := by rfl) :
    PE X (.Call (.Name "any" p) [gEx elt iter tg gpos scope] [] pos) (tGen Pt wi g te (own.map (·.2)) true) := by
  refine ⟨fun pins s σ H Q I h => ?_⟩
  refine wpAny_Call_Name_kw (ld_blt I hgl hm (by decide +kernel : bootBuiltins "any" = some (.builtin "any")) ?_)
  refine PyProof.Rows.callWith_builtin1 ?_ hse (by rfl)
  rw [hse]
  show wpAny _ _ (spliced ((false, eval (gEx elt iter tg gpos scope) X.env) :: backTo pos (starEach [] X.env))) _ _ s
  refine Calls.spliced_cons (gen_val (Qf := fun H => Q (.bl (!true)) H) (Qt := fun H => Q (.bl true) H) (st := true) hr hd hc TB hcode ok hN hcell h0 hco hi hg he hs I h fun s4 H1 C code it fp a go g s5 n tn W I4 f4 hgo ho L => ?_)
  refine Calls.spliced_nil ?_
  have back : ∀ {b : Bool} {H' : Hp} {s' : Shared}, Inv (gY X elt iter tg gpos scope s4 H1 C code it fp [(a, go)]) [] (wipe σ (own.map (·.2))) H' s' → Q (.bl b) H' → EP X pins σ Q (.bool b) s' := fun {b H' s'} I6 q =>
    ⟨.bl b, H', I4.call' (ch := fp) I6.os I6.base I6.hok I6.bare fun y hy => ⟨(f4 y hy).2.2.2.1, (f4 y hy).2.1, (f4 y hy).2.2.2.2.1, (f4 y hy).2.2.2.2.2⟩, rfl, q⟩
  have hgen : s5.heap.IsGen a g := by
    obtain ⟨i, m, H, _, S, _⟩ := L.ex
    exact hgo _ (S.I.pin (a, go) (List.mem_append_left _ List.mem_cons_self)).1
  refine call_function_tree F.kind_any F.plain_any F.entry_any (F.args_any1 _) ?_
  unfold Builtin.«any»
  refine wpAny_bind (m := oneArg "any" _) (wpAny_pure ?_)
  refine wpAny_bind (wpAny_pyIter_gen hgen ?_)
  refine wpAny_pure ⟨plainId_quiet F.plain_any_loop _, any_loopG (E := fun _ _ => False) (fun n s => LSt X.prog X.w (gY X elt iter tg gpos scope s4 H1 C code it fp [(a, go)]) X.A.in1.in1 (wipe σ (own.map (·.2))) tn fp W (fun H => Q (.bl (!true)) H) (fun H => Q (.bl true) H) true g n s) (fun n s' L' => ?_) n s5 L⟩
  refine wpAny_mono (gen_turn (a := a) (go := go) (A := X.A.in1) hr hd List.mem_cons_self hgo L') (fun r s' hr => ?_) fun _ _ z => z
  cases r with
  | none =>
    obtain ⟨H', I6, q⟩ := hr
    exact back I6 q
  | some v =>
    obtain ⟨b, rfl, q⟩ := hr
    refine ⟨b, rfl, ?_⟩
    by_cases hb : b = true
    · rw [if_pos hb] at q ⊢
      obtain ⟨H', I6, q⟩ := q
      exact back I6 q
    · rw [if_neg hb] at q ⊢
      exact q
theorem pe_allG (hr : X.A.handled = none) (hd : X.A.depth < recursionLimit) (hc : X.calm = true) (hgl : Gl X "all") (hm : X.mg "all" = none) (TB : GxR.TabB X.base X.mg c Pt) (hcode : X.env.code = .ref c) (ok : BlkOk X.N X.env.scope scope own) (hN : X.N.Nodup)
    (hcell : ∀ y ∈ scope.names, y.2 ≠ .cell) (h0 : scope.names.lookup (".0" : Str) = some NameKind.local) (hco : scope.isCoroutine = false)
    (hi : PI X tg iter wi) (hg : ∀ s H C code it fp pn, PG (gY X elt iter tg gpos scope s H C code it fp pn) tg g) (he : ∀ s H C code it fp pn, PE (gY X elt iter tg gpos scope s H C code it fp pn) elt te) (hs : ∀ v, genFold iter X.env v = pure v)
    (hse : starEach [gEx elt iter tg gpos scope] X.env = (false, eval (gEx elt iter tg gpos scope) X.env) :: starEach [] X.env := by rfl) :
    PE X (.Call (.Name "all" p) [gEx elt iter tg gpos scope] [] pos) (tGen Pt wi g te (own.map (·.2)) false) := by
  refine ⟨fun pins s σ H Q I h => ?_⟩
  refine wpAny_Call_Name_kw (ld_blt I hgl hm (by decide +kernel : bootBuiltins "all" = some (.builtin "all")) ?_)
  refine PyProof.Rows.callWith_builtin1 ?_ hse (by rfl)
  rw [hse]
  show wpAny _ _ (spliced ((false, eval (gEx elt iter tg gpos scope) X.env) :: backTo pos (starEach [] X.env))) _ _ s
  refine Calls.spliced_cons (gen_val (Qf := fun H => Q (.bl (!false)) H) (Qt := fun H => Q (.bl false) H) (st := false) hr hd hc TB hcode ok hN hcell h0 hco hi hg he hs I h fun s4 H1 C code it fp a go g s5 n tn W I4 f4 hgo ho L => ?_)
  refine Calls.spliced_nil ?_
  have back : ∀ {b : Bool} {H' : Hp} {s' : Shared}, Inv (gY X elt iter tg gpos scope s4 H1 C code it fp [(a, go)]) [] (wipe σ (own.map (·.2))) H' s' → Q (.bl b) H' → EP X pins σ Q (.bool b) s' := fun {b H' s'} I6 q =>
    ⟨.bl b, H', I4.call' (ch := fp) I6.os I6.base I6.hok I6.bare fun y hy => ⟨(f4 y hy).2.2.2.1, (f4 y hy).2.1, (f4 y hy).2.2.2.2.1, (f4 y hy).2.2.2.2.2⟩, rfl, q⟩
  have hgen : s5.heap.IsGen a g := by
    obtain ⟨i, m, H, _, S, _⟩ := L.ex
    exact hgo _ (S.I.pin (a, go) (List.mem_append_left _ List.mem_cons_self)).1
  refine call_function_tree F.kind_all F.plain_all F.entry_all (F.args_all1 _) ?_
  unfold Builtin.«all»
  refine wpAny_bind (m := oneArg "all" _) (wpAny_pure ?_)
  refine wpAny_bind (wpAny_pyIter_gen hgen ?_)
  refine wpAny_pure ⟨plainId_quiet F.plain_all_loop _, all_loopG (E := fun _ _ => False) (fun n s => LSt X.prog X.w (gY X elt iter tg gpos scope s4 H1 C code it fp [(a, go)]) X.A.in1.in1 (wipe σ (own.map (·.2))) tn fp W (fun H => Q (.bl (!false)) H) (fun H => Q (.bl false) H) false g n s) (fun n s' L' => ?_) n s5 L⟩
  refine wpAny_mono (gen_turn (a := a) (go := go) (A := X.A.in1) hr hd List.mem_cons_self hgo L') (fun r s' hr => ?_) fun _ _ z => z
  cases r with
  | none =>
    obtain ⟨H', I6, q⟩ := hr
    exact back I6 q
  | some v =>
    obtain ⟨b, rfl, q⟩ := hr
    refine ⟨b, rfl, ?_⟩
    by_cases hb : b = false
    · rw [if_pos hb] at q ⊢
      obtain ⟨H', I6, q⟩ := q
      exact back I6 q
    · rw [if_neg hb] at q ⊢
      exact q
end
end Pu
/-! Pgh: any, all of a generator expression over data. -/
namespace Pu
open PySem PySem.Spec PyProof.Rows L2 R
/-- st: the truth that ends it -/
def genR {α : Type} (st : Bool) (f : α → R D) : List α → R D
  | [] => R.ret (.bool (!st))
  | x :: xs => (nx (f x)).bind fun y => match y with
    | .bool b => if b = st then R.ret (.bool st) else genR st f xs
    | _ => bad
/-- the def's code object and its table -/
structure GTab (X : Cx) (c Pt : Addr) : Prop where
  k : KTab X.K Pt
  t : GxR.TabB X.base X.mg c Pt
  c : X.env.code = .ref c
section
variable {CX : CXT} {k : Nat} {wd : Wd} {N : List Str} {sc : Scope} {X : Cx} {ρ : List Sl} {elt iter tg : Expr} {x y z u : Str} {px py pz pu pt gpos pos p : Pos} {scope : Scope} {c Pt : Addr} {i j l q : Nat} {kt : Nat} {f : D → R D} {r : R (List D)} {st : Bool}
theorem gAr_units {C : Addr} {code : Value} {it : Addr} : (gAr X elt iter tg gpos scope C code it).units ≤ X.A.units + 10 := by
  unfold gAr Around.over
  show X.A.units + 1 + 1 + _ + _ ≤ _
  show X.A.units + 1 + 1 + 0 + (gLoop elt iter tg gpos scope it (gEnvOf X scope C code)).cUnits ≤ _
  have : (gLoop elt iter tg gpos scope it (gEnvOf X scope C code)).cUnits ≤ 8 := Nat.le_of_ble_eq_true rfl
  omega
theorem gAr_depth {C : Addr} {code : Value} {it : Addr} : (gAr X elt iter tg gpos scope C code it).depth ≤ X.A.depth + 3 := by
  unfold gAr Around.over
  show X.A.depth + 0 + (gLoop elt iter tg gpos scope it (gEnvOf X scope C code)).weight ≤ _
  have : (gLoop elt iter tg gpos scope it (gEnvOf X scope C code)).weight ≤ 3 := Nat.le_of_ble_eq_true rfl
  omega
theorem Cw.sub2 (c : Cw CX k wd N sc X) (h : 2 ≤ k) : Cw CX (k - 2 + 2) wd N sc X := by rw [Nat.sub_add_cancel h]; exact c
theorem Cw.gen (c : Cw CX (k + 2) wd N sc X) (hF : ∀ outer H s e s', CX outer H s (fun _ _ _ => False) e s' → False) (hr : Room (k + 2) X.A) (elt iter tg : Expr) (gpos : Pos) (scope : Scope) (s0 : Shared) (H0 : Hp) (C : Addr) (code : Value) (it : Addr) (fp : List Addr) (pn : List (Addr × Obj)) :
    Cw CX k wd.calm N scope (gY X elt iter tg gpos scope s0 H0 C code it fp pn) :=
  ⟨c.hN, rfl, c.nd, fun h => c.calm' h, by
    have h1 := gAr_units (X := X) (elt := elt) (iter := iter) (tg := tg) (gpos := gpos) (scope := scope) (C := C) (code := code) (it := it)
    have h2 := hr.un
    show (gAr X elt iter tg gpos scope C code it).units + 190 < cLine
    omega, fun _ => ⟨hr.hd, by
      have h1 := gAr_depth (X := X) (elt := elt) (iter := iter) (tg := tg) (gpos := gpos) (scope := scope) (C := C) (code := code) (it := it)
      have h2 := hr.dp
      show (gAr X elt iter tg gpos scope C code it).depth + 3 * k + 5 < _
      omega, by
      have h1 := gAr_units (X := X) (elt := elt) (iter := iter) (tg := tg) (gpos := gpos) (scope := scope) (C := C) (code := code) (it := it)
      have h2 := hr.un
      show (gAr X elt iter tg gpos scope C code it).units + 16 * k + 200 < _
      omega⟩, PassesOwn.never, fun pins σ H s e s' I h => hF _ _ _ _ _ h⟩
def bG (X : Cx) (elt iter tg : Expr) (gpos : Pos) (scope : Scope) : TE := fun σ H Q => ∀ s0 H0 C code it fp pn, BE (gY X elt iter tg gpos scope s0 H0 C code it fp pn) elt σ H Q
/-- the target's rule in every such frame -/
def GenG (X : Cx) (elt iter tg : Expr) (gpos : Pos) (scope : Scope) (g : TG) : Prop := ∀ s0 H0 C code it fp pn, PG (gY X elt iter tg gpos scope s0 H0 C code it fp pn) tg g
/-- what the element computes -/
structure GenEl (X : Cx) (wd : Wd) (elt iter tg : Expr) (gpos : Pos) (scope : Scope) (st : D → Option (List Sl)) (f : D → R D) : Prop where
  no : ∀ d, st d = none → f d = bad
  el : ∀ d ρ', st d = some ρ' → ∀ s0 H0 C code it fp pn, Ev (gY X elt iter tg gpos scope s0 H0 C code it fp pn) wd.calm ρ' elt (f d)
theorem gen_read {g : TG} {vs : List Nat} {tt : D → Option (List Sl)} (hi : EvJ X wd ρ tg iter r) (hgs : GS X.K wd.dr g vs (wipeS ρ vs) tt) (hno : ∀ i ∈ vs, ¬ Own ρ i) (hk : KTab X.K Pt) (hel : GenEl X wd elt iter tg gpos scope tt f)
    (F : Addr → Prop) (ad : Nat → Addr) (σ : L2.St) (H : Hp) (Q : VK) (s : StOk X.K wd.dr F ρ σ H ad)
    (q : (r.bind fun ds => genR st f ds).wp (fun d => ∀ v H', Grow wd.dr H H' → Rep X.K (Ban F ρ ad) H' v d → Q v H') (XP X wd F ρ ad H)) :
    tGen Pt (BI X tg iter) g (bG X elt iter tg gpos scope) vs st σ H Q := by
  rw [wp_bind] at q
  refine hi F ad σ H _ s (wp_mono (fun ds q J H1 g1 hJ => ?_) (fun _ _ z => z) q)
  have s1 := s.grow g1
  refine ⟨s1.tb Pt hk, ?_⟩
  obtain ⟨Vd, v0, vS, vG, vY, vE⟩ := hJ (Ban F ρ ad) (fun b z => .inl z) (fun b z => z)
  generalize hIn : (fun (i : Nat) (H' : Hp) => Grow wd.dr H1 H' ∧ Vd H' ∧ (genR st f (ds.drop i)).wp (fun d => ∀ v H', Grow wd.dr H H' → Rep X.K (Ban F ρ ad) H' v d → Q v H') (XP X wd F ρ ad H)) = In
  refine ⟨fun i m H' => m = ds.length - i ∧ i ≤ ds.length ∧ In i H', ⟨ds.length, rfl, Nat.zero_le _, by subst hIn; exact ⟨Grow.refl _ _, v0, q⟩⟩, ?_⟩
  rintro j m H' ⟨rfl, hi', hI⟩
  have hI' := hI
  rw [← hIn] at hI'
  obtain ⟨g2, vd, q⟩ := hI'
  by_cases hlt : j < ds.length
  · refine .inr ⟨vG _ _ vd hlt, by omega, In (j + 1), fun H'' z => ⟨ds.length - (j + 1), by omega, rfl, hlt, z⟩, ?_⟩
    intro v H'' y
    obtain ⟨sm, rx⟩ := vY _ _ _ _ ds[j] vd y (List.getElem?_eq_getElem hlt)
    have g3 : Grow wd.dr H1 H'' := g2.trans (Grow.same sm)
    have s3 : StOk X.K wd.dr F (wipeS ρ vs) (wipe σ vs) H'' ad := (s1.grow g3).wiped
    have wb : ∀ b, Ban F (wipeS ρ vs) ad b → Ban F ρ ad b := by
      rintro b (b | ⟨i, o, e⟩)
      · exact .inl b
      · exact .inr ⟨i, wipeS_own o, e⟩
    have vd3 := vS _ _ vd (Grow.same sm)
    rw [List.drop_eq_getElem_cons hlt] at q
    unfold genR at q
    rw [wp_bind] at q
    cases est : tt ds[j] with
    | none => rw [hel.no _ est] at q; exact q.elim
    | some ρ' =>
    refine hgs F ad _ H'' v ds[j] ρ' _ s3 (rx.weak wb) est fun σ' s' ho2 ho w => ⟨by rw [w, wipe_idem vs vs fun _ h => h], ?_⟩
    intro s0 H0 C code it fp pn
    refine hel.el ds[j] ρ' est s0 H0 C code it fp pn F ad _ H'' _ s' (xp_false (wp_nx (E := fun _ _ => False) (wp_nx' (E := XP X wd F ρ ad H) (wp_mono (fun y q v' H4 g5 rv => ?_) (fun _ _ z => z) q))))
    have g6 := g3.trans g5
    cases y with
    | bool b =>
      cases rv
      refine ⟨b, rfl, ?_⟩
      by_cases hb : b = st
      · rw [if_pos hb]
        have q : (if b = st then R.ret (.bool st) else genR st f (ds.drop (j + 1))).wp _ _ := q
        rw [if_pos hb] at q
        exact q (.bl st) H4 (g1.trans g6) (.bl _)
      · rw [if_neg hb]
        have q : (if b = st then R.ret (.bool st) else genR st f (ds.drop (j + 1))).wp _ _ := q
        rw [if_neg hb] at q
        subst hIn
        exact ⟨g6, vS _ _ vd3 g5, q⟩
    | _ => exact q.elim
  · have e : j = ds.length := by omega
    subst e
    rw [List.drop_length] at q
    exact .inl ⟨vE _ vd, q (.bl (!st)) _ (g1.trans g2) (.bl _)⟩
theorem bG_pe (s0 : Shared) (H0 : Hp) (C : Addr) (code : Value) (it : Addr) (fp : List Addr) (pn : List (Addr × Obj)) : PE (gY X elt iter tg gpos scope s0 H0 C code it fp pn) elt (bG X elt iter tg gpos scope) := ⟨fun pins s σ H Q I h => h s0 H0 C code it fp pn pins s I⟩
/-- what is asked of the generator's scope -/
def gScB (scope : Scope) : Bool := (scope.names.all fun y => match y.2 with | .cell => false | _ => true) && locB scope ".0" && !scope.isCoroutine
theorem gSc_of (h : gScB scope = true) : (∀ y ∈ scope.names, y.2 ≠ .cell) ∧ scope.names.lookup (".0" : Str) = some NameKind.local ∧ scope.isCoroutine = false := by
  unfold gScB at h
  simp only [Bool.and_eq_true, Bool.not_eq_true'] at h
  obtain ⟨⟨h1, h2⟩, h4⟩ := h
  refine ⟨fun y hy e => ?_, locB_eq h2, h4⟩
  have := List.all_eq_true.mp h1 y hy
  rw [e] at this
  cases this
theorem pgn (cw : Cw CX k wd N sc X) {s0 : Shared} {H0 : Hp} {C : Addr} {code : Value} {it : Addr} {fp : List Addr} {pn : List (Addr × Obj)} (hN : N[i]? = some x) (hl : locB scope x = true) : PG (gY X elt iter tg gpos scope s0 H0 C code it fp pn) (.Name x px) (gName i) :=
  pg_name (by show X.N.Nodup; rw [cw.hN]; exact cw.nd) (by show X.N[i]? = _; rw [cw.hN]; exact hN) (.inl (locB_eq hl)) (.inr (locB_eq hl))
theorem ev_genG [Calm wd] (cw : Cw CX (k + 2) wd N sc X) (G : GTab X c Pt) {own : List (Str × Nat)} {g : TG} {tt : D → Option (List Sl)} (hok : blkC N sc scope own = true) (hsc : gScB scope = true) (hg : GenG X elt iter tg gpos scope g) (hgs : GS X.K wd.dr g (own.map (·.2)) (wipeS ρ (own.map (·.2))) tt)
    (hno : ∀ i ∈ own.map (·.2), ¬ Own ρ i) (hi : EvJ X wd ρ tg iter r) (hel : GenEl X wd elt iter tg gpos scope tt f) {nm : Str} (hn : (nm = "any" ∧ st = true) ∨ (nm = "all" ∧ st = false)) (hgl : glB sc nm = true) (hm : X.mg nm = none) (hs : ∀ v, genFold iter X.env v = pure v)
    (hse : starEach [gEx elt iter tg gpos scope] X.env = (false, eval (gEx elt iter tg gpos scope) X.env) :: starEach [] X.env) :
    Ev X wd ρ (.Call (.Name nm p) [.GeneratorExp elt [⟨tg, iter, [], 0⟩] scope gpos] [] pos) (r.bind fun ds => genR st f ds) := fun F ad σ H Q s q => by
  obtain ⟨h1, h2, h4⟩ := gSc_of hsc
  rcases hn with ⟨rfl, rfl⟩ | ⟨rfl, rfl⟩
  · exact be (pe_anyG (c := c) (Pt := Pt) (own := own) cw.room.hd (by have := cw.room.dp; omega) cw.calm (cw.gl hgl).1 hm G.t G.c (by rw [cw.hN, cw.hs]; exact blkOk_by hok) (by rw [cw.hN]; exact cw.nd) h1 h2 h4 pi_b hg bG_pe hs hse) (gen_read hi hgs hno G.k hel F ad σ H Q s q)
  · exact be (pe_allG (c := c) (Pt := Pt) (own := own) cw.room.hd (by have := cw.room.dp; omega) cw.calm (cw.gl hgl).1 hm G.t G.c (by rw [cw.hN, cw.hs]; exact blkOk_by hok) (by rw [cw.hN]; exact cw.nd) h1 h2 h4 pi_b hg bG_pe hs hse) (gen_read hi hgs hno G.k hel F ad σ H Q s q)
/-- nm(elt for x in iter) -/
theorem ev_gen1 [Calm wd] (cw : Cw CX (k + 2) wd N sc X) (G : GTab X c Pt) (hok : blkC N sc scope [(x, i)] = true) (hsc : (gScB scope && locB scope x) = true) (hN : N[i]? = some x) {sl : Sl} (hno : ρ[i]? = some sl) (hsl : sl.own = false) (hi : EvJ X wd ρ (.Name x px) iter r)
    (hel : ∀ d s0 H0 C code it fp pn, Ev (gY X elt iter (.Name x px) gpos scope s0 H0 C code it fp pn) wd.calm (ρ.set i (.d d)) elt (f d)) {nm : Str} (hn : (nm = "any" ∧ st = true) ∨ (nm = "all" ∧ st = false)) (hgl : glB sc nm = true) (hm : X.mg nm = none) (hs : ∀ v, genFold iter X.env v = pure v := by exact fun _ => rfl)
    (hse : starEach [gEx elt iter (.Name x px) gpos scope] X.env = (false, eval (gEx elt iter (.Name x px) gpos scope) X.env) :: starEach [] X.env := by rfl) :
    Ev X wd ρ (.Call (.Name nm p) [.GeneratorExp elt [⟨.Name x px, iter, [], 0⟩] scope gpos] [] pos) (r.bind fun ds => genR st f ds) := by
  rw [Bool.and_eq_true] at hsc
  exact ev_genG cw G (own := [(x, i)]) hok hsc.1 (fun s0 H0 C code it fp pn => pgn cw hN hsc.2) (gs_name1 ρ) (fun j hj => by simp at hj; subst hj; exact not_own hno hsl) hi ⟨fun d e => (by cases e), fun d ρ' e => (by cases e; exact hel d)⟩ hn hgl hm hs hse
/-- nm(elt for x, y in iter) -/
theorem ev_gen2 [Calm wd] (cw : Cw CX (k + 2) wd N sc X) (G : GTab X c Pt) {f : D → D → R D} (hok : blkC N sc scope [(x, i), (y, j)] = true) (hsc : (gScB scope && locB scope x && locB scope y) = true) (hN : N[i]? = some x) (hN2 : N[j]? = some y) {sl sl2 : Sl} (hno : ρ[i]? = some sl) (hsl : sl.own = false) (hno2 : ρ[j]? = some sl2) (hsl2 : sl2.own = false)
    (hi : EvJ X wd ρ (.Tuple [.Name x px, .Name y py] kt pt) iter r)
    (hel : ∀ a b s0 H0 C code it fp pn, Ev (gY X elt iter (.Tuple [.Name x px, .Name y py] kt pt) gpos scope s0 H0 C code it fp pn) wd.calm (((wipeS ρ [i, j]).set i (.d a)).set j (.d b)) elt (f a b)) {nm : Str} (hn : (nm = "any" ∧ st = true) ∨ (nm = "all" ∧ st = false)) (hgl : glB sc nm = true) (hm : X.mg nm = none) (hs : ∀ v, genFold iter X.env v = pure v := by exact fun _ => rfl)
    (hse : starEach [gEx elt iter (.Tuple [.Name x px, .Name y py] kt pt) gpos scope] X.env = (false, eval (gEx elt iter (.Tuple [.Name x px, .Name y py] kt pt) gpos scope) X.env) :: starEach [] X.env := by rfl) :
    Ev X wd ρ (.Call (.Name nm p) [.GeneratorExp elt [⟨.Tuple [.Name x px, .Name y py] kt pt, iter, [], 0⟩] scope gpos] [] pos) (r.bind fun ds => genR st (fun d => unp2 d f) ds) := by
  rw [Bool.and_eq_true, Bool.and_eq_true] at hsc
  exact ev_genG cw G (own := [(x, i), (y, j)]) hok hsc.1.1 (fun s0 H0 C code it fp pn => pg_tup (X := gY X elt iter (.Tuple [.Name x px, .Name y py] kt pt) gpos scope s0 H0 C code it fp pn) cw.calm (pgs_cons (pgn cw hN hsc.1.2) (pgs_cons (pgn cw hN2 hsc.2) pgs_nil))) (gs_tup (ρ := wipeS ρ [i, j]) (is := [i, j])) (fun u hu => by
    simp only [List.map_cons, List.map_nil, List.mem_cons, List.not_mem_nil, or_false] at hu
    rcases hu with rfl | rfl
    · exact not_own hno hsl
    · exact not_own hno2 hsl2) hi ⟨fun d e => stT2n e, fun d ρ' e => by obtain ⟨a, b, rfl, rfl⟩ := stT2 e; exact hel a b⟩ hn hgl hm hs hse
/-- nm(elt for x, y, z, u in iter) -/
theorem ev_gen4 [Calm wd] (cw : Cw CX (k + 2) wd N sc X) (G : GTab X c Pt) {f : D → D → D → D → R D} (hok : blkC N sc scope [(x, i), (y, j), (z, l), (u, q)] = true) (hsc : (gScB scope && locB scope x && locB scope y && locB scope z && locB scope u) = true) (hN : N[i]? = some x) (hN2 : N[j]? = some y) (hN3 : N[l]? = some z) (hN4 : N[q]? = some u)
    {sl sl2 sl3 sl4 : Sl} (hno : ρ[i]? = some sl) (hsl : sl.own = false) (hno2 : ρ[j]? = some sl2) (hsl2 : sl2.own = false) (hno3 : ρ[l]? = some sl3) (hsl3 : sl3.own = false) (hno4 : ρ[q]? = some sl4) (hsl4 : sl4.own = false)
    (hi : EvJ X wd ρ (.Tuple [.Name x px, .Name y py, .Name z pz, .Name u pu] kt pt) iter r)
    (hel : ∀ a b c' e s0 H0 C code it fp pn, Ev (gY X elt iter (.Tuple [.Name x px, .Name y py, .Name z pz, .Name u pu] kt pt) gpos scope s0 H0 C code it fp pn) wd.calm (((((wipeS ρ [i, j, l, q]).set i (.d a)).set j (.d b)).set l (.d c')).set q (.d e)) elt (f a b c' e)) {nm : Str} (hn : (nm = "any" ∧ st = true) ∨ (nm = "all" ∧ st = false)) (hgl : glB sc nm = true) (hm : X.mg nm = none) (hs : ∀ v, genFold iter X.env v = pure v := by exact fun _ => rfl)
    (hse : starEach [gEx elt iter (.Tuple [.Name x px, .Name y py, .Name z pz, .Name u pu] kt pt) gpos scope] X.env = (false, eval (gEx elt iter (.Tuple [.Name x px, .Name y py, .Name z pz, .Name u pu] kt pt) gpos scope) X.env) :: starEach [] X.env := by rfl) :
    Ev X wd ρ (.Call (.Name nm p) [.GeneratorExp elt [⟨.Tuple [.Name x px, .Name y py, .Name z pz, .Name u pu] kt pt, iter, [], 0⟩] scope gpos] [] pos) (r.bind fun ds => genR st (fun d => unp4 d f) ds) := by
  rw [Bool.and_eq_true, Bool.and_eq_true, Bool.and_eq_true, Bool.and_eq_true] at hsc
  exact ev_genG cw G (own := [(x, i), (y, j), (z, l), (u, q)]) hok hsc.1.1.1.1 (fun s0 H0 C code it fp pn => pg_tup (X := gY X elt iter (.Tuple [.Name x px, .Name y py, .Name z pz, .Name u pu] kt pt) gpos scope s0 H0 C code it fp pn) cw.calm (pgs_cons (pgn cw hN hsc.1.1.1.2) (pgs_cons (pgn cw hN2 hsc.1.1.2) (pgs_cons (pgn cw hN3 hsc.1.2) (pgs_cons (pgn cw hN4 hsc.2) pgs_nil)))))
    (gs_tup (ρ := wipeS ρ [i, j, l, q]) (is := [i, j, l, q])) (fun v hu => by
    simp only [List.map_cons, List.map_nil, List.mem_cons, List.not_mem_nil, or_false] at hu
    rcases hu with rfl | rfl | rfl | rfl
    · exact not_own hno hsl
    · exact not_own hno2 hsl2
    · exact not_own hno3 hsl3
    · exact not_own hno4 hsl4) hi ⟨fun d e => stT4n e, fun d ρ' h => by obtain ⟨a, b, c', e, rfl, rfl⟩ := stT4 h; exact hel a b c' e⟩ hn hgl hm hs hse
end
end Pu
/-! Pl2: comprehensions with two fors. -/
namespace Pu
open PySem PySem.Spec PyProof.Rows L2 R
/-- [f x y for x in .. if cf x for y in src x if cf1 x y], behind acc -/
def comp2R (cf : D → R Bool) (src : D → R (List D)) (cf1 : D → D → R Bool) (f : D → D → R D) : List D → List D → R (List D)
  | [], acc => ret acc
  | x :: xs, acc => (nx (cf x)).bind fun b => if b = true then (nx (src x)).bind fun ds1 => (compR (cf1 x) (f x) ds1 acc).bind fun acc => comp2R cf src cf1 f xs acc else comp2R cf src cf1 f xs acc
section
variable {CX : CXT} {k : Nat} {wd : Wd} {N : List Str} {sc : Scope} {X : Cx} {ρ : List Sl} {e a b tg iter tg1 iter1 elt t : Expr} {ifs ifs1 : List Expr} {pos p px py : Pos} {x y : Str} {i j : Nat} {sl sl2 : Sl}
def bI (X : Cx) (scope : Scope) (tg iter : Expr) : TI := fun σ H R => ∀ s0 H0 C cl fp, BI (X.blk s0 H0 scope (compEnvC scope cl C X.env) fp) tg iter σ H R
theorem bI_pi {scope : Scope} (s0 : Shared) (H0 : Hp) (C : Addr) (cl : List (Str × Addr)) (fp : List Addr) : PI (X.blk s0 H0 scope (compEnvC scope cl C X.env) fp) tg iter (bI X scope tg iter) := ⟨fun pins s σ H R I h => h s0 H0 C cl fp pins s I⟩
/-- what the parts compute -/
structure L2El (X : Cx) (wd : Wd) (scope : Scope) (ρ : List Sl) (i j : Nat) (tg1 iter1 elt : Expr) (ifs ifs1 : List Expr) (cf : D → R Bool) (src : D → R (List D)) (cf1 : D → D → R Bool) (f : D → D → R D) : Prop where
  ts : ∀ d, match ifs with
    | [] => cf d = R.ret true
    | t :: _ => ∀ s0 H0 C cl fp, EvT (X.blk s0 H0 scope (compEnvC scope cl C X.env) fp) wd.calm ((wipeS ρ [i, j]).set i (.d d)) t (cf d)
  it : ∀ d s0 H0 C cl fp, EvI (X.blk s0 H0 scope (compEnvC scope cl C X.env) fp) wd.calm ((wipeS ρ [i, j]).set i (.d d)) tg1 iter1 (src d)
  ts1 : ∀ d e, match ifs1 with
    | [] => cf1 d e = R.ret true
    | t :: _ => ∀ s0 H0 C cl fp, EvT (X.blk s0 H0 scope (compEnvC scope cl C X.env) fp) wd.calm (((wipeS ρ [i, j]).set i (.d d)).set j (.d e)) t (cf1 d e)
  el : ∀ d e s0 H0 C cl fp, Ev (X.blk s0 H0 scope (compEnvC scope cl C X.env) fp) wd.calm (((wipeS ρ [i, j]).set i (.d d)).set j (.d e)) elt (f d e)
theorem wp_nxx {α : Type} {Q : α → Prop} {E E' : Nat → D → Prop} {r : R α} (h : wp Q E (nx r)) : wp Q E' r := wp_nx h
theorem l2_read {scope : Scope} {cf : D → R Bool} {src : D → R (List D)} {cf1 : D → D → R Bool} {f : D → D → R D} {r : R (List D)} (hi : EvJ X wd ρ tg iter r) (hij : i ≠ j) (hno : ¬ Own ρ i) (hno2 : ¬ Own ρ j) (hel : L2El X wd scope ρ i j tg1 iter1 elt ifs ifs1 cf src cf1 f)
    (F : Addr → Prop) (ad : Nat → Addr) (σ : L2.St) (H : Hp) (Q : VK) (s : StOk X.K wd.dr F ρ σ H ad)
    (q : (r.bind fun ds => comp2R cf src cf1 f ds []).wp (fun ds => ∀ a vs H', Grow wd.dr H H' → H a = none → H' a = some (.lst vs) → Reps X.K (fun b => Ban F ρ ad b ∨ b = a) H' vs ds → Q (.ref a) H') (XP X wd F ρ ad H)) :
    tLc2 (BI X tg iter) (gName i) (bT X scope ifs) (bI X scope tg1 iter1) (gName j) (bT X scope ifs1) (bE X scope elt) [i, j] [j] σ H Q := by
  rw [wp_bind] at q
  refine hi F ad σ H _ s (wp_mono (fun ds q J H1 g1 hJ => ?_) (fun _ _ z => z) q)
  intro Dn hDn
  have hDn0 := free_grow s g1 hDn
  have s1 := s.grow g1
  generalize hF' : (fun b => F b ∨ b = Dn) = F'
  have FF : ∀ b, Ban F ρ ad b → Ban F' ρ ad b := by
    rintro b (z | z)
    · subst hF'; exact .inl (.inl z)
    · exact .inr z
  have FD : Ban F' ρ ad Dn := by subst hF'; exact .inl (.inr rfl)
  have FN : ∀ b, Ban F' ρ ad b → Ban F ρ ad b ∨ H1 b = none := by
    subst hF'
    rintro b ((z | rfl) | z)
    · exact .inl (.inl z)
    · exact .inr hDn
    · exact .inl (.inr z)
  have sF : ∀ {H' : Hp} {xs : List V}, Grow wd.dr H1 H' → H' Dn = some (.lst xs) → StOk X.K wd.dr F' ρ σ H' ad := fun g e => by subst hF'; exact s1.newF hDn g e fun _ z => nomatch z
  obtain ⟨Vd, v0, vS, vG, vY, vE⟩ := hJ (Ban F' ρ ad) FN FF
  have gD : ∀ {o}, Grow wd.dr H1 (upd H1 Dn o) := fun {o} => Grow.same (same_upd hDn)
  have dne : ¬ Has wd.dr Dn := fun z => by
    obtain ⟨o, e, _⟩ := s1.banned (s1.drF z)
    rw [hDn] at e; cases e
  generalize hQ : (fun (ds : List D) => ∀ (a : Addr) (vs : List V) (H' : Hp), Grow wd.dr H H' → H a = none → H' a = some (.lst vs) → Reps X.K (fun b => Ban F ρ ad b ∨ b = a) H' vs ds → Q (.ref a) H') = QQ at q
  -- a list's place beside what is done
  have push : ∀ {H4 : Hp} {vsD : List V} {acc : List D} {v : V} {d : D}, Grow wd.dr H1 H4 → H4 Dn = some (.lst vsD) → Reps X.K (Ban F' ρ ad) H4 vsD acc → Rep X.K (Ban F' ρ ad) H4 v d → Grow wd.dr H1 (upd H4 Dn (.lst (vsD ++ [v]))) ∧ Reps X.K (Ban F' ρ ad) (upd H4 Dn (.lst (vsD ++ [v]))) (vsD ++ [v]) (acc ++ [d]) := fun {H4 vsD acc v d} g e r rv => by
    refine ⟨g.updNew hDn, (r.append (.cons rv .nil)).stay fun b o eb nb => ?_⟩
    rw [upd_ne fun z => nb (by rw [z]; exact FD)]
    exact eb
  generalize hIn : (fun (n : Nat) (H' : Hp) => Grow wd.dr H1 H' ∧ Vd H' ∧ ∃ acc vsD, H' Dn = some (.lst vsD) ∧ Reps X.K (Ban F' ρ ad) H' vsD acc ∧ (comp2R cf src cf1 f (ds.drop n) acc).wp QQ (XP X wd F ρ ad H)) = In
  refine ⟨fun n m H' => m = ds.length - n ∧ n ≤ ds.length ∧ In n H', ⟨ds.length, rfl, Nat.zero_le _, by subst hIn; exact ⟨gD, vS _ _ v0 gD, [], [], upd_same, .nil, q⟩⟩, ?_⟩
  rintro n m H' ⟨rfl, hn, hI⟩
  have hI' := hI
  rw [← hIn] at hI'
  obtain ⟨g2, vd, acc, vsD, eD, rD, q⟩ := hI'
  by_cases hlt : n < ds.length
  · refine .inr ⟨vG _ _ vd hlt, In (n + 1), fun H'' z => ⟨ds.length - (n + 1), by omega, rfl, hlt, z⟩, ?_⟩
    intro x H'' yy
    obtain ⟨sm, rx⟩ := vY _ _ _ _ ds[n] vd yy (List.getElem?_eq_getElem hlt)
    have g3 : Grow wd.dr H1 H'' := g2.trans (Grow.same sm)
    have eD3 := sm _ _ eD
    have s3r : StOk X.K wd.dr F' ρ σ H'' ad := sF g3 eD3
    have s3 : StOk X.K wd.dr F' (wipeS ρ [i, j]) (wipe σ [i, j]) H'' ad := s3r.wiped
    have wb : ∀ b, Ban F' (wipeS ρ [i, j]) ad b → Ban F' ρ ad b := by
      rintro b (b | ⟨i, o, e⟩)
      · exact .inl b
      · exact .inr ⟨i, wipeS_own o, e⟩
    rw [List.drop_eq_getElem_cons hlt] at q
    have vd3 := vS _ _ vd (Grow.same sm)
    have rD3 := rD.stay (same_stay sm)
    generalize ds[n] = d at q rx yy
    have s4 := s3.set (i := i) (rx.weak wb)
    have bw : ∀ b, Ban F' ρ ad b → Ban F' ((wipeS ρ [i, j]).set i (.d d)) ad b := by
      rintro b (z | ⟨u, o, e⟩)
      · exact .inl z
      · have hu : u ≠ i := fun z => hno (by rw [← z]; exact o)
        have hu2 : u ≠ j := fun z => hno2 (by rw [← z]; exact o)
        exact .inr ⟨u, set_own (own_wipeS (by simp [hu, hu2]) o) hu, e⟩
    have wi : wipe ((wipe σ [i, j]).set i (some x)) [i, j] = wipe σ [i, j] := by
      rw [wipe_set_comm (by simp)]
      exact wipe_idem [i, j] [i, j] fun _ h => h
    refine ⟨wi, ?_⟩
    unfold comp2R at q
    rw [wp_bind] at q
    -- behind the first tests
    have key : ∀ (b : Bool) (H3 : Hp), Grow wd.dr H'' H3 → (if b = true then (nx (src d)).bind fun ds1 => (compR (cf1 d) (f d) ds1 acc).bind fun acc => comp2R cf src cf1 f (ds.drop (n + 1)) acc else comp2R cf src cf1 f (ds.drop (n + 1)) acc).wp QQ (XP X wd F ρ ad H) →
        (if b = true then bI X scope tg1 iter1 ((wipe σ [i, j]).set i (some x)) H3 fun J1 H4 => ∃ W1 : Nat → Nat → Hp → Prop, (∃ m, W1 0 m H4) ∧ ∀ u k H, W1 u k H →
          (J1.stop u H ∧ In (n + 1) H) ∨ (J1.go u H ∧ ∃ Nx1 : Hp → Prop, (∀ H', Nx1 H' → ∃ k', k' < k ∧ W1 (u + 1) k' H') ∧ ∀ x' H', J1.yld u H x' H' → gName j x' (wipe ((wipe σ [i, j]).set i (some x)) [j]) H' fun σ3 H5 => wipe σ3 [j] = wipe ((wipe σ [i, j]).set i (some x)) [j] ∧ bT X scope ifs1 σ3 H5 fun b H6 =>
            if b = true then bE X scope elt σ3 H6 fun y H7 => ∃ acc, H7 Dn = some (.lst acc) ∧ acc.length < sizeLine ∧ Nx1 (upd H7 Dn (.lst (acc ++ [y]))) else Nx1 H6) else In (n + 1) H3) := by
      intro b H3 g4 q
      have eD4 := g4.keep _ _ eD3 dne
      have rD4 := rD3.stay (s3r.stays g4)
      have vd4 := vS _ _ vd3 g4
      cases b with
      | false => subst hIn; exact iteF ⟨g3.trans g4, vd4, acc, vsD, eD4, rD4, q⟩
      | true =>
        refine iteT fun s0 H0 C cl fp => ?_
        have q : ((nx (src d)).bind fun ds1 => (compR (cf1 d) (f d) ds1 acc).bind fun acc => comp2R cf src cf1 f (ds.drop (n + 1)) acc).wp QQ (XP X wd F ρ ad H) := q
        rw [wp_bind] at q
        have s5 := s4.grow g4
        refine hel.it d s0 H0 C cl fp F' ad _ H3 _ s5 (xp_false (wp_nx (E := fun _ _ => False) (wp_nx' (E := XP X wd F ρ ad H) (wp_mono (fun ds1 q J1 H4 g5 hJ1 => ?_) (fun _ _ z => z) q))))
        obtain ⟨Vd1, w0, wS, wG, wY, wE⟩ := hJ1 (Ban F' ρ ad) (fun b z => .inl (bw b z)) fun b z => by
          rcases z with z | ⟨u, o, e⟩
          · exact .inl z
          · exact wb b (.inr ⟨u, (own_set o).1, e⟩)
        have g45 := g4.trans g5
        have eD5 := g5.keep _ _ eD4 dne
        have rD5 := rD4.stay ((s3r.grow g4).stays g5)
        have vd5 := vS _ _ vd4 g5
        have g05 : Grow wd.dr H1 H4 := g3.trans g45
        have rx5 : Rep X.K (Ban F' ρ ad) H4 x d := (rx.stay (s3r.stays g4)).stay ((s3r.grow g4).stays g5)
        generalize hIn1 : (fun (u : Nat) (H' : Hp) => Grow wd.dr H1 H' ∧ Vd H' ∧ Vd1 H' ∧ Rep X.K (Ban F' ρ ad) H' x d ∧ ∃ acc vsD, H' Dn = some (.lst vsD) ∧ Reps X.K (Ban F' ρ ad) H' vsD acc ∧
          ((compR (cf1 d) (f d) (ds1.drop u) acc).bind fun acc => comp2R cf src cf1 f (ds.drop (n + 1)) acc).wp QQ (XP X wd F ρ ad H)) = In1
        refine ⟨fun u m H' => m = ds1.length - u ∧ u ≤ ds1.length ∧ In1 u H', ⟨ds1.length, rfl, Nat.zero_le _, by subst hIn1; exact ⟨g05, vd5, w0, rx5, acc, vsD, eD5, rD5, q⟩⟩, ?_⟩
        rintro u m Hx ⟨rfl, hu, hI1⟩
        have hI1' := hI1
        rw [← hIn1] at hI1'
        obtain ⟨gx1, vdx, v1x, rxx, acc1, vs1, e1, r1, q⟩ := hI1'
        by_cases hlt1 : u < ds1.length
        · refine .inr ⟨wG _ _ v1x hlt1, In1 (u + 1), fun H'' z => ⟨ds1.length - (u + 1), by omega, rfl, hlt1, z⟩, ?_⟩
          intro x' Hy yy1
          obtain ⟨sm1, rx1⟩ := wY _ _ _ _ ds1[u] v1x yy1 (List.getElem?_eq_getElem hlt1)
          have gs1 : Grow wd.dr Hx Hy := Grow.same sm1
          have e2 := sm1 _ _ e1
          have r2 := r1.stay (same_stay sm1)
          have gy1 : Grow wd.dr H1 Hy := gx1.trans gs1
          have sY := sF gy1 e2
          have rxy : Rep X.K (Ban F' ρ ad) Hy x d := rxx.stay (same_stay sm1)
          have vdy := vS _ _ vdx gs1
          have v1y := wS _ _ v1x (same_stay sm1)
          rw [List.drop_eq_getElem_cons hlt1] at q
          generalize ds1[u] = d1 at q rx1 yy1
          have wb2 : ∀ b, Ban F' ((wipeS ρ [i, j]).set i (.d d)) ad b → Ban F' ρ ad b := fun b z => by
            rcases z with z | ⟨u, o, e⟩
            · exact .inl z
            · exact wb b (.inr ⟨u, (own_set o).1, e⟩)
          have sy : StOk X.K wd.dr F' ((wipeS ρ [i, j]).set i (.d d)) ((wipe σ [i, j]).set i (some x)) Hy ad := (sY.wiped (vs := [i, j])).set (i := i) (rxy.weak wb)
          have sz : StOk X.K wd.dr F' (((wipeS ρ [i, j]).set i (.d d)).set j (.d d1)) ((wipe ((wipe σ [i, j]).set i (some x)) [j]).set j (some x')) Hy ad := by
            have h := sy.set (i := j) (rx1.weak wb2)
            have e : (wipe ((wipe σ [i, j]).set i (some x)) [j]).set j (some x') = ((wipe σ [i, j]).set i (some x)).set j (some x') := by
              show (((wipe σ [i, j]).set i (some x)).set j none).set j (some x') = _
              rw [List.set_set]
            rw [e]
            exact h
          refine ⟨by rw [wipe_set_comm (by simp)]; exact wipe_idem [j] [j] fun _ h => h, ?_⟩
          have bw2 : ∀ b, Ban F' ρ ad b → Ban F' (((wipeS ρ [i, j]).set i (.d d)).set j (.d d1)) ad b := by
            intro b z
            rcases bw b z with z | ⟨u, o, e⟩
            · exact .inl z
            · by_cases hu : u = j
              · subst hu
                exact absurd (wipeS_own (own_set o).1) hno2
              · exact .inr ⟨u, set_own o hu, e⟩
          unfold compR at q
          rw [bind_assoc, wp_bind] at q
          have key1 : ∀ (b : Bool) (H6 : Hp), Grow wd.dr Hy H6 → ((if b = true then (nx (f d d1)).bind (fun y => if acc1.length < sizeLine then compR (cf1 d) (f d) (ds1.drop (u + 1)) (acc1 ++ [y]) else bad) else compR (cf1 d) (f d) (ds1.drop (u + 1)) acc1).bind fun acc => comp2R cf src cf1 f (ds.drop (n + 1)) acc).wp QQ (XP X wd F ρ ad H) →
              (if b = true then bE X scope elt ((wipe ((wipe σ [i, j]).set i (some x)) [j]).set j (some x')) H6 fun y H7 => ∃ acc, H7 Dn = some (.lst acc) ∧ acc.length < sizeLine ∧ In1 (u + 1) (upd H7 Dn (.lst (acc ++ [y]))) else In1 (u + 1) H6) := by
            intro b H6 g6 q
            have g16 := gy1.trans g6
            have e3 := g6.keep _ _ e2 dne
            have st6 := sY.stays g6
            have r3 := r2.stay st6
            have vd6 := vS _ _ vdy g6
            have v16 := wS _ _ v1y st6
            have rx6 := rxy.stay st6
            cases b with
            | false => subst hIn1; exact iteF ⟨g16, vd6, v16, rx6, acc1, vs1, e3, r3, q⟩
            | true =>
              refine iteT fun s0 H0 C cl fp => ?_
              have q : ((nx (f d d1)).bind (fun y => if acc1.length < sizeLine then compR (cf1 d) (f d) (ds1.drop (u + 1)) (acc1 ++ [y]) else bad)).bind (fun acc => comp2R cf src cf1 f (ds.drop (n + 1)) acc) |>.wp QQ (XP X wd F ρ ad H) := q
              rw [bind_assoc, wp_bind] at q
              refine hel.el d d1 s0 H0 C cl fp F' ad _ H6 _ (sz.grow g6) (xp_false (wp_nx (E := fun _ _ => False) (wp_nx' (E := XP X wd F ρ ad H) (wp_mono (fun y q v H7 g7 rv => ?_) (fun _ _ z => z) q))))
              by_cases hz : acc1.length < sizeLine
              · rw [if_pos hz] at q
                have e4 := g7.keep _ _ e3 dne
                have st7 := (sY.grow g6).stays g7
                have r4 := r3.stay st7
                have rv' : Rep X.K (Ban F' ρ ad) H7 v y := rv.weak bw2
                have g17 := g16.trans g7
                obtain ⟨g18, r5⟩ := push g17 e4 r4 rv'
                have st8 : Stay (Ban F' ρ ad) H7 (upd H7 Dn (.lst (vs1 ++ [v]))) := fun b o eb nb => by
                  rw [upd_ne fun z => nb (by rw [z]; exact FD)]
                  exact eb
                refine ⟨vs1, e4, by rw [r4.length]; exact hz, ?_⟩
                subst hIn1
                exact ⟨g18, vS _ _ v0 g18, wS _ _ (wS _ _ v16 st7) st8, (rx6.stay st7).stay st8, acc1 ++ [y], vs1 ++ [v], upd_same, r5, q⟩
              · rw [if_neg hz] at q; exact q.elim
          cases ifs1 with
          | nil =>
            have et := hel.ts1 d d1
            simp only at et
            rw [et] at q
            exact key1 true Hy (Grow.refl _ _) q
          | cons t ts =>
            intro s0 H0 C cl fp
            exact hel.ts1 d d1 s0 H0 C cl fp F' ad _ Hy _ sz (xp_false (wp_nx (E := fun _ _ => False) (wp_nx' (E := XP X wd F ρ ad H) (wp_mono (fun b q H6 g6 => key1 b H6 g6 q) (fun _ _ z => z) q))))
        · have e : u = ds1.length := by omega
          subst e
          rw [List.drop_length] at q
          have q : (comp2R cf src cf1 f (ds.drop (n + 1)) acc1).wp QQ (XP X wd F ρ ad H) := q
          refine .inl ⟨wE _ v1x, ?_⟩
          subst hIn
          exact ⟨gx1, vdx, acc1, vs1, e1, r1, q⟩
    cases ifs with
    | nil =>
      have et := hel.ts d
      simp only at et
      rw [et] at q
      exact key true H'' (Grow.refl _ _) q
    | cons t ts =>
      intro s0 H0 C cl fp
      exact hel.ts d s0 H0 C cl fp F' ad _ H'' _ s4 (xp_false (wp_nx (E := fun _ _ => False) (wp_nx' (E := XP X wd F ρ ad H) (wp_mono (fun b q H3 g4 => key b H3 g4 q) (fun _ _ z => z) q))))
  · have e : n = ds.length := by omega
    subst e
    rw [List.drop_length] at q
    have q : QQ acc := q
    subst hQ
    exact .inl ⟨vE _ vd, q _ _ _ (g1.trans g2) hDn0 eD (rD.weak fun b z => by
      rcases z with z | rfl
      · exact FF _ z
      · exact FD)⟩
end
section
variable {CX : CXT} {k : Nat} {wd : Wd} {N : List Str} {sc : Scope} {X : Cx} {ρ : List Sl} {e a b tg iter tg1 iter1 elt t : Expr} {pos p px py : Pos} {x y : Str} {i j : Nat} {sl sl2 : Sl}
theorem own2_not {i j : Nat} (hno : ρ[i]? = some sl) (hno2 : ρ[j]? = some sl2) (hsl : sl.own = false) (hsl2 : sl2.own = false) : ¬ Own ρ i ∧ ¬ Own ρ j := ⟨not_own hno hsl, not_own hno2 hsl2⟩
theorem pe2_core [Calm wd] (c : Cw CX k wd N sc X) {scope : Scope} {ifs ifs1 : List Expr} (hok : blkC N sc scope [(x, i), (y, j)] = true) (hN : N[i]? = some x) (hx : tgB scope sc x = true) (hN2 : N[j]? = some y) (hy : tgB scope sc y = true) (hl : ifs.length ≤ 1) (hl1 : ifs1.length ≤ 1)
    (hs : ∀ x, foldedSetIterable iter X.env x = pure x) (hs1 : ∀ env x, foldedSetIterable iter1 env x = pure x) :
    PE X (.ListComp elt [⟨.Name x px, iter, ifs, 0⟩, ⟨.Name y py, iter1, ifs1, 0⟩] scope pos) (tLc2 (BI X (.Name x px) iter) (gName i) (bT X scope ifs) (bI X scope (.Name y py) iter1) (gName j) (bT X scope ifs1) (bE X scope elt) [i, j] [j]) :=
  pe_lc2 (own := [(x, i), (y, j)]) c.calm (by rw [c.hN]; exact c.nd) pi_b (by rw [c.hN, c.hs]; exact blkOk_by hok) (by simp) (blkg_name c hN hx) (bT_pts hl) bI_pi (blkg_name c hN2 hy) (bT_pts hl1) bE_pe hs hs1
/-- [elt for x in iter for y in iter1] -/
theorem evl_comp2 [Calm wd] (c : Cw CX k wd N sc X) {scope : Scope} {src : D → R (List D)} {f : D → D → R D} {r : R (List D)} (hok : blkC N sc scope [(x, i), (y, j)] = true) (hN : N[i]? = some x) (hx : tgB scope sc x = true) (hN2 : N[j]? = some y) (hy : tgB scope sc y = true) (hij : (i != j) = true) (hno : ρ[i]? = some sl) (hsl : sl.own = false) (hno2 : ρ[j]? = some sl2) (hsl2 : sl2.own = false)
    (hi : EvJ X wd ρ (.Name x px) iter r) (hit : ∀ d s0 H0 C cl fp, EvI (X.blk s0 H0 scope (compEnvC scope cl C X.env) fp) wd.calm ((wipeS ρ [i, j]).set i (.d d)) (.Name y py) iter1 (src d))
    (hel : ∀ d e s0 H0 C cl fp, Ev (X.blk s0 H0 scope (compEnvC scope cl C X.env) fp) wd.calm (((wipeS ρ [i, j]).set i (.d d)).set j (.d e)) elt (f d e)) (hs : ∀ x, foldedSetIterable iter X.env x = pure x := by exact fun _ => rfl) (hs1 : ∀ env x, foldedSetIterable iter1 env x = pure x := by exact fun _ _ => rfl) :
    EvL X wd ρ (.ListComp elt [⟨.Name x px, iter, [], 0⟩, ⟨.Name y py, iter1, [], 0⟩] scope pos) (r.bind fun ds => comp2R (fun _ => R.ret true) src (fun _ _ => R.ret true) f ds []) := fun F ad σ H Q s q =>
  be (pe2_core c hok hN hx hN2 hy (Nat.zero_le _) (Nat.zero_le _) hs hs1) (l2_read hi (by simpa using hij) (own2_not hno hno2 hsl hsl2).1 (own2_not hno hno2 hsl hsl2).2 ⟨fun _ => by rfl, hit, fun _ _ => by rfl, hel⟩ F ad σ H Q s q)
/-- .. if t behind the second -/
theorem evl_comp2if [Calm wd] (c : Cw CX k wd N sc X) {scope : Scope} {src : D → R (List D)} {cf : D → D → R Bool} {f : D → D → R D} {r : R (List D)} (hok : blkC N sc scope [(x, i), (y, j)] = true) (hN : N[i]? = some x) (hx : tgB scope sc x = true) (hN2 : N[j]? = some y) (hy : tgB scope sc y = true) (hij : (i != j) = true) (hno : ρ[i]? = some sl) (hsl : sl.own = false) (hno2 : ρ[j]? = some sl2) (hsl2 : sl2.own = false)
    (hi : EvJ X wd ρ (.Name x px) iter r) (hit : ∀ d s0 H0 C cl fp, EvI (X.blk s0 H0 scope (compEnvC scope cl C X.env) fp) wd.calm ((wipeS ρ [i, j]).set i (.d d)) (.Name y py) iter1 (src d))
    (ht : ∀ d e s0 H0 C cl fp, EvT (X.blk s0 H0 scope (compEnvC scope cl C X.env) fp) wd.calm (((wipeS ρ [i, j]).set i (.d d)).set j (.d e)) t (cf d e))
    (hel : ∀ d e s0 H0 C cl fp, Ev (X.blk s0 H0 scope (compEnvC scope cl C X.env) fp) wd.calm (((wipeS ρ [i, j]).set i (.d d)).set j (.d e)) elt (f d e)) (hs : ∀ x, foldedSetIterable iter X.env x = pure x := by exact fun _ => rfl) (hs1 : ∀ env x, foldedSetIterable iter1 env x = pure x := by exact fun _ _ => rfl) :
    EvL X wd ρ (.ListComp elt [⟨.Name x px, iter, [], 0⟩, ⟨.Name y py, iter1, [t], 0⟩] scope pos) (r.bind fun ds => comp2R (fun _ => R.ret true) src cf f ds []) := fun F ad σ H Q s q =>
  be (pe2_core c hok hN hx hN2 hy (Nat.zero_le _) (Nat.le_refl _) hs hs1) (l2_read hi (by simpa using hij) (own2_not hno hno2 hsl hsl2).1 (own2_not hno hno2 hsl hsl2).2 ⟨fun _ => by rfl, hit, fun d e => by exact ht d e, hel⟩ F ad σ H Q s q)
end
section
variable {CX : CXT} {k : Nat} {wd : Wd} {N : List Str} {sc : Scope} {X : Cx} {S B T : Type} {eS : S → List Sl} {eB : B → List Sl} {eT : T → List Sl} {ρ : List Sl} {iter iter1 elt t : Expr} {rest : List Stmt} {pos p px py : Pos} {x y z : Str} {i j l : Nat} {sl sl2 : Sl}
theorem ps_comp2 [Calm wd] (c : Cd CX k wd N sc X) {scope : Scope} {ifs ifs1 : List Expr} {spos : Pos} (hz : swB sc scope z p.line pos.line = true) (hNz : N[l]? = some z) (hok : blkC N sc scope [(x, i), (y, j)] = true) (hN : N[i]? = some x) (hx : tgB scope sc x = true) (hN2 : N[j]? = some y) (hy : tgB scope sc y = true) (hl : ifs.length ≤ 1) (hl1 : ifs1.length ≤ 1)
    (hs : ∀ x, foldedSetIterable iter X.env x = pure x) (hs1 : ∀ env x, foldedSetIterable iter1 env x = pure x) :
    PS X (.Assign [.Name z p] (.ListComp elt [⟨.Name x px, iter, ifs, 0⟩, ⟨.Name y py, iter1, ifs1, 0⟩] scope pos) spos) (tAsg (tLc2 (BI X (.Name x px) iter) (gName i) (bT X scope ifs) (bI X scope (.Name y py) iter1) (gName j) (bT X scope ifs1) (bE X scope elt) [i, j] [j]) (gName l)) := by
  have hz1 : X.env.scope.names.lookup z = some .local := by
    rw [c.hs]
    unfold swB at hz
    rw [Bool.and_eq_true, Bool.and_eq_true] at hz
    exact locB_eq hz.1.1
  exact ps_setLc2 (own := [(x, i), (y, j)]) c.calm c.nd' (c.at hNz) hz1 (swaps_of c hz) pi_b (by rw [c.hN, c.hs]; exact blkOk_by hok) (by simp) (blkg_name c.toCw hN hx) (bT_pts hl) bI_pi (blkg_name c.toCw hN2 hy) (bT_pts hl1) bE_pe hs hs1
theorem run_setC2 [Calm wd] (c : Cd CX k wd N sc X) {scope : Scope} {spos : Pos} {src : D → R (List D)} {f : D → D → R D} {r : R (List D)} {o : List D → R (Out S B T)} (hz : swB sc scope z p.line pos.line = true) (hNz : N[l]? = some z) (hok : blkC N sc scope [(x, i), (y, j)] = true) (hN : N[i]? = some x) (hx : tgB scope sc x = true) (hN2 : N[j]? = some y) (hy : tgB scope sc y = true) (hij : (i != j) = true) (hno : ρ[i]? = some sl) (hsl : sl.own = false) (hno2 : ρ[j]? = some sl2) (hsl2 : sl2.own = false)
    (hi : EvJ X wd ρ (.Name x px) iter r) (hit : ∀ d s0 H0 C cl fp, EvI (X.blk s0 H0 scope (compEnvC scope cl C X.env) fp) wd.calm ((wipeS ρ [i, j]).set i (.d d)) (.Name y py) iter1 (src d))
    (hel : ∀ d e s0 H0 C cl fp, Ev (X.blk s0 H0 scope (compEnvC scope cl C X.env) fp) wd.calm (((wipeS ρ [i, j]).set i (.d d)).set j (.d e)) elt (f d e)) (hr : ∀ ds, Run X wd eS eB eT (ρ.set l (.d (.list ds))) rest (o ds)) (hs : ∀ x, foldedSetIterable iter X.env x = pure x := by exact fun _ => rfl) (hs1 : ∀ env x, foldedSetIterable iter1 env x = pure x := by exact fun _ _ => rfl) :
    Run X wd eS eB eT ρ (.Assign [.Name z p] (.ListComp elt [⟨.Name x px, iter, [], 0⟩, ⟨.Name y py, iter1, [], 0⟩] scope pos) spos :: rest) ((r.bind fun ds => comp2R (fun _ => R.ret true) src (fun _ _ => R.ret true) f ds []).bind o) :=
  setF_core (ps_comp2 c hz hNz hok hN hx hN2 hy (Nat.zero_le _) (Nat.zero_le _) hs hs1) (fun F ad σ H Q s q => l2_read hi (by simpa using hij) (own2_not hno hno2 hsl hsl2).1 (own2_not hno hno2 hsl hsl2).2 ⟨fun _ => by rfl, hit, fun _ _ => by rfl, hel⟩ F ad σ H Q s q) hr
theorem run_setC2if [Calm wd] (c : Cd CX k wd N sc X) {scope : Scope} {spos : Pos} {src : D → R (List D)} {cf : D → D → R Bool} {f : D → D → R D} {r : R (List D)} {o : List D → R (Out S B T)} (hz : swB sc scope z p.line pos.line = true) (hNz : N[l]? = some z) (hok : blkC N sc scope [(x, i), (y, j)] = true) (hN : N[i]? = some x) (hx : tgB scope sc x = true) (hN2 : N[j]? = some y) (hy : tgB scope sc y = true) (hij : (i != j) = true) (hno : ρ[i]? = some sl) (hsl : sl.own = false) (hno2 : ρ[j]? = some sl2) (hsl2 : sl2.own = false)
    (hi : EvJ X wd ρ (.Name x px) iter r) (hit : ∀ d s0 H0 C cl fp, EvI (X.blk s0 H0 scope (compEnvC scope cl C X.env) fp) wd.calm ((wipeS ρ [i, j]).set i (.d d)) (.Name y py) iter1 (src d))
    (ht : ∀ d e s0 H0 C cl fp, EvT (X.blk s0 H0 scope (compEnvC scope cl C X.env) fp) wd.calm (((wipeS ρ [i, j]).set i (.d d)).set j (.d e)) t (cf d e))
    (hel : ∀ d e s0 H0 C cl fp, Ev (X.blk s0 H0 scope (compEnvC scope cl C X.env) fp) wd.calm (((wipeS ρ [i, j]).set i (.d d)).set j (.d e)) elt (f d e)) (hr : ∀ ds, Run X wd eS eB eT (ρ.set l (.d (.list ds))) rest (o ds)) (hs : ∀ x, foldedSetIterable iter X.env x = pure x := by exact fun _ => rfl) (hs1 : ∀ env x, foldedSetIterable iter1 env x = pure x := by exact fun _ _ => rfl) :
    Run X wd eS eB eT ρ (.Assign [.Name z p] (.ListComp elt [⟨.Name x px, iter, [], 0⟩, ⟨.Name y py, iter1, [t], 0⟩] scope pos) spos :: rest) ((r.bind fun ds => comp2R (fun _ => R.ret true) src cf f ds []).bind o) :=
  setF_core (ps_comp2 c hz hNz hok hN hx hN2 hy (Nat.zero_le _) (Nat.le_refl _) hs hs1) (fun F ad σ H Q s q => l2_read hi (by simpa using hij) (own2_not hno hno2 hsl hsl2).1 (own2_not hno hno2 hsl hsl2).2 ⟨fun _ => by rfl, hit, fun d e => by exact ht d e, hel⟩ F ad σ H Q s q) hr
end
end Pu
/-! Pgz: the end of a row whose defs have tables. -/
namespace Pu
open PySem PySem.Spec PyProof.Rows L2 R
theorem law_callF {P : Program} {w : World} {K : PySem.W.Frag} {mg mb : Str → Option Value} {CX : CXT} {k : Nat} {fa a : Addr} {cs : List (Addr × Addr)} {fd : FuncData} {x : Str} {sp : Sp} {s₁ : Shared} {vs : List Value} {ns : List Int}
    (KX : K.In s₁.heap) (hns : s₁.heap.Ns mainGlobals mg) (hb : s₁.heap.Ns builtinsNs mb) (hbb : ∀ x : Str, x ≠ "__name__" → mb x = bootBuiltins x) (hlim : s₁.heap.NoLimit) (hg : s₁.gens = #[])
    (hT : ∀ p ∈ cs, s₁.heap.get? p.2 = some { cls := .none, data := .fields #[] }) (nT : ∀ p ∈ cs, K.lookup p.2 = none) (C : ∀ p ∈ cs, PySem.W.CodeHd s₁.heap p.1 p.2)
    (hbm : ∃ (bm : Addr) (ob : Obj), mg "__builtins__" = some (.ref bm) ∧ bm ≠ builtinsNs ∧ s₁.heap.get? bm = some ob ∧ ob.cls = .type "module" ∧ ob.dict = some builtinsNs ∧ ob.data = .plain)
    (ha : s₁.heap.get? a = some { cls := .type "list", data := .seq vs.toArray }) (hi : IntsAre vs ns) (hl : ns.length ≤ sizeLine) (hr : Room k callerA)
    (F : ∀ base : Heap, K.In base → base.Ns mainGlobals mg → (∀ p ∈ cs, GxR.TabB base mg p.1 p.2) → FnOk P w K mg base CX k fa fd [x] sp) (hbind : ∀ (s : Shared) (u : Value), BindsTo s fd ⟨[u], []⟩ [(x, u)])
    (hsp : ∀ H : Hp, (∀ p ∈ cs, H p.2 = some (TabF p.2)) → SqL K H a (ns.map V.int) → sp [.ref a] H (fun v H' => v = .bl true ∧ ∀ p ∈ cs, H' p.2 = some (TabF p.2)) fun _ _ _ => False)
    (hCX : ∀ H e s', CX [] H s₁ (fun _ _ _ => False) e s' → False) :
    codeAny (model P w) callerA (.call (.ref fa) ⟨[.ref a], []⟩) (fun r s' => r = .ok (.ret (.bool true)) ∧ OldK s₁.heap s'.heap ∧ s'.os = s₁.os ∧ AllBare s'.gens) s₁ := by
  have rv := vals_ints hi
  have lenV := hi.length
  have isT : ∀ b : Addr, b ∈ cs.map (·.2) → s₁.heap.get? b = some { cls := .none, data := .fields #[] } := fun b hb => by
    obtain ⟨p, hp, e⟩ := List.mem_map.mp hb
    rw [← e]
    exact hT p hp
  have aT : a ∉ cs.map (·.2) := fun z => by
    have q := isT a z
    rw [ha] at q
    have z' : Data.seq vs.toArray _ = Data.fields #[] := congrArg Obj.data (Option.some.inj q)
    cases z'
  have memT : ∀ p ∈ cs, p.2 ∈ cs.map (·.2) := fun p hp => List.mem_map.mpr ⟨p, hp, rfl⟩
  have tabOk : ∀ (H : Hp) (b : Addr), b ∈ cs.map (·.2) → ObjOk P w H s₁.heap b (TabF b) := fun H b hb =>
    ⟨⟨#[], isT b hb, trivial⟩, ⟨_, isT b hb⟩, fun h1 h2 ⟨ps, e, t⟩ hh => ⟨ps, hh _ e, t⟩⟩
  have core : ∀ H : Hp, (∀ p ∈ cs, H p.2 = some (TabF p.2)) → (∀ b, H b = none ∨ b ∈ cs.map (·.2) ∨ ∃ o xs, H b = some (.frz o (.lst xs))) → SqL K H a (ns.map V.int) → HOk P w H s₁.heap → (∀ b, H b ≠ none → b = a ∨ b ∈ cs.map (·.2)) → (H a ≠ none → K.lookup a = none) →
      codeAny (model P w) callerA (.call (.ref fa) ⟨[.ref a], []⟩) (fun r s' => r = .ok (.ret (.bool true)) ∧ OldK s₁.heap s'.heap ∧ s'.os = s₁.os ∧ AllBare s'.gens) s₁ := by
    intro H hH hO hS hok hA hK
    have base_of : ∀ {b : Addr} {o : Obj}, s₁.heap.get? b = some o → H b = none → (hidT s₁.heap H).get? b = some o := fun e n => hidT_get e n
    have noD : ∀ {b : Addr} {o : Obj}, s₁.heap.get? b = some o → (∀ vs n, o.data ≠ .seq vs n) → o.data ≠ .fields #[] → H b = none := fun {b o} e h1 h2 => by
      cases q : H b with
      | none => rfl
      | some u =>
        rcases hA b (by rw [q]; simp) with e' | e'
        · rw [e', ha] at e
          cases e
          exact (h1 _ _ rfl).elim
        · rw [isT b e'] at e
          cases e
          exact (h2 rfl).elim
    have noA : ∀ {b : Addr} {o : Obj} {es : Array DictEntry} {ep : Nat}, s₁.heap.get? b = some o → o.data = .dict es ep → H b = none := fun {b o es ep} e d => by
      refine noD e (fun vs n z => ?_) fun z => ?_
      · rw [d] at z
        cases z
      · rw [d] at z
        cases z
    have nsK : ∀ {b : Addr} {m : Str → Option Value}, s₁.heap.Ns b m → (hidT s₁.heap H).Ns b m := fun {b m} ⟨o, es, ep, e, d, r⟩ => ⟨o, es, ep, base_of e (noA e d), d, r⟩
    have hKb : K.In (hidT s₁.heap H) := fun b o e => base_of (KX b o e) (by
      cases q : H b with
      | none => rfl
      | some u =>
        rcases hA b (by rw [q]; simp) with e' | e'
        · rw [e'] at e q
          rw [hK (by rw [q]; simp)] at e
          cases e
        · obtain ⟨p, hp, ep⟩ := List.mem_map.mp e'
          rw [← ep, nT p hp] at e
          cases e)
    have hM : L2.Mod K mg (hidT s₁.heap H) := ⟨hKb, nsK hns, ⟨mb, nsK hb, hbb⟩, let ⟨mc, h1, h2⟩ := hlim; ⟨mc, nsK h1, h2⟩⟩
    have TB : ∀ p ∈ cs, GxR.TabB (hidT s₁.heap H) mg p.1 p.2 := fun p hp => by
      have hTp := hT p hp
      refine ⟨?_, ?_, fun z => ?_⟩
      · obtain ⟨o, us, file, tf, flags, tg, inF, text, tt, e1, r1, r2, r3, r4, r5, r6, r7, r8, hne⟩ := C p hp
        refine ⟨o, us, file, tf, flags, tg, inF, text, tt, base_of e1 (noD e1 (fun vs n z => ?_) fun z => ?_), r1, r2, r3, r4, r5, r6, r7, r8, hne⟩
        · rw [r2] at z
          cases z
        · rw [r2] at z
          cases z
          simp at r3
      · obtain ⟨bm, ob, b1, b2, b3, b4, b5, b6⟩ := hbm
        have nG : bm ≠ mainGlobals := fun q => by
          obtain ⟨o, es, ep, e, hd, _⟩ := hns
          rw [q, e] at b3
          cases b3
          rw [hd] at b6
          cases b6
        have nP : bm ≠ p.2 := fun q => by
          rw [q, hTp] at b3
          cases b3
          cases b6
        refine ⟨bm, ob, b1, b2, nG, nP, base_of b3 (noD b3 (fun vs n z => ?_) fun z => ?_), b4, b5, b6⟩
        · rw [b6] at z
          cases z
        · rw [b6] at z
          cases z
      · obtain ⟨o, es, ep, e, hd, _⟩ := hns
        rw [z, hTp] at e
        cases e
        cases hd
    have e0 : Env0 P w K mg (hidT s₁.heap H) callerA [] s₁ H := ⟨rfl, hM, fun b o e => of_hidT e, Nat.le_of_eq (hidT_size _ _), trivial, fun b hb => absurd (show b ∈ ([] : List Addr) from hb) (by simp), hok, .of_eq hg⟩
    refine codeAny_mono ((F _ hKb (nsK hns) TB).run callerA [] s₁ H ⟨[.ref a], []⟩ [.ref a] [.ref a] _ _ hr e0 (hbind s₁ (.ref a)) (.cons rfl .nil) (hsp H hH hS)) fun r s' h => ?_
    cases r with
    | error e => exact (hCX H e s' h).elim
    | ok fl =>
      cases fl with
      | next => exact False.elim h
      | brk => exact False.elim h
      | cont => exact False.elim h
      | ret u =>
        obtain ⟨v, H', os, bare, un, hok', r', q⟩ := h
        have q' : v = .bl true ∧ ∀ p ∈ cs, H' p.2 = some (TabF p.2) := q
        obtain ⟨q', qT⟩ := q'
        subst q'
        obtain rfl : u = Value.bool true := r'
        have key : ∀ b o, b ∉ cs.map (·.2) → s₁.heap.get? b = some o → s'.heap.get? b = some o := fun b o nb e => by
          cases q : H b with
          | none => exact un.keep b o e q (by intro z; exact absurd (show b ∈ ([] : List Addr) from z) (by simp)) (by simp)
          | some u =>
            rcases hO b with z | z | ⟨ob, xs, z⟩
            · rw [q] at z; cases z
            · exact absurd z nb
            · have z2 := un.frzs b ob _ z
              obtain ⟨e1, _⟩ := hok b _ z
              obtain ⟨e2, _⟩ := hok' b _ z2
              rw [e] at e1; cases e1
              exact e2
        have grown : ∀ p ∈ cs, ∃ more : Array Value, s'.heap.get? p.2 = some { cls := .none, data := .fields more } := fun p hp => by
          obtain ⟨⟨ps, e, _⟩, _, _⟩ := hok' p.2 _ (qT p hp)
          exact ⟨ps, e⟩
        refine ⟨rfl, ⟨fun b o e => ?_, fun b o e => ?_⟩, os, bare⟩
        · by_cases hb : b ∈ cs.map (·.2)
          · obtain ⟨p, hp, ep⟩ := List.mem_map.mp hb
            obtain ⟨more, hm⟩ := grown p hp
            rw [← ep] at e ⊢
            rw [hT p hp] at e
            cases e
            exact .inr (.inl ⟨((C p hp).tab (hT p hp)).isCodeTable, rfl, #[], more, rfl, by rw [Array.empty_append]; exact hm⟩)
          · exact .inl (key b o hb e)
        · by_cases hb : b ∈ cs.map (·.2)
          · obtain ⟨p, hp, ep⟩ := List.mem_map.mp hb
            obtain ⟨more, hm⟩ := grown p hp
            rw [← ep]
            exact ⟨_, hm⟩
          · exact ⟨o, key b o hb e⟩
  cases hk : K.lookup a with
  | some o =>
    have e := KX a o hk
    rw [ha] at e
    cases e
    refine core (fun b => if b ∈ cs.map (·.2) then some (TabF b) else none) (fun p hp => if_pos (memT p hp)) (fun b => ?_) (.inr ⟨_, vs.toArray, _, hk, rfl, rfl, rfl, by rw [List.size_toArray, lenV]; exact hl, by simpa using rv⟩) (fun b u z => ?_) (fun b z => ?_) fun z => absurd (show (if a ∈ cs.map (·.2) then some (TabF a) else none) = none from if_neg aT) z
    · by_cases hb : b ∈ cs.map (·.2)
      · exact .inr (.inl hb)
      · exact .inl (if_neg hb)
    · by_cases hb : b ∈ cs.map (·.2)
      · have z' := (if_pos hb).symm.trans z
        cases z'
        exact tabOk _ b hb
      · have z' := (if_neg hb).symm.trans z
        cases z'
    · by_cases hb : b ∈ cs.map (·.2)
      · exact .inr hb
      · exact absurd (if_neg hb) z
  | none =>
    refine core (fun b => if b = a then some (.frz { cls := .type "list", data := .seq vs.toArray } (.lst (ns.map V.int))) else if b ∈ cs.map (·.2) then some (TabF b) else none) (fun p hp => (if_neg (show ¬ p.2 = a from fun z => aT (by rw [← z]; exact memT p hp))).trans (if_pos (memT p hp))) (fun b => ?_)
      (.inl (.inr ⟨{ cls := .type "list", data := .seq vs.toArray }, if_pos rfl⟩)) (fun b u z => ?_) (fun b z => ?_) fun _ => hk
    · by_cases hb : b = a
      · exact .inr (.inr ⟨_, _, if_pos hb⟩)
      · by_cases hb2 : b ∈ cs.map (·.2)
        · exact .inr (.inl hb2)
        · exact .inl ((if_neg hb).trans (if_neg hb2))
    · by_cases hb : b = a
      · have z' := (if_pos hb).symm.trans z
        cases z'
        rw [hb]
        exact ⟨ha, by rw [List.length_map]; exact hl, vs, _, rv, ha⟩
      · have z1 := (if_neg hb).symm.trans z
        by_cases hb2 : b ∈ cs.map (·.2)
        · have z' := (if_pos hb2).symm.trans z1
          cases z'
          exact tabOk _ b hb2
        · have z' := (if_neg hb2).symm.trans z1
          cases z'
    · by_cases hb : b = a
      · exact .inl hb
      · by_cases hb2 : b ∈ cs.map (·.2)
        · exact .inr hb2
        · exact absurd ((if_neg hb).trans (if_neg hb2)) z
/-- the tables are not in the written part -/
def tabsB (K : PySem.W.Frag) : Bool := TNames.all fun x => match PySem.W.tabIn K x with
  | some (_, P) => (K.lookup P).isNone
  | none => true
def recsB (q : Program) : Bool := TNames.all fun x => ((recsOf q).find? fun e => e.name == x).isSome
theorem walk_ofF {l : PySem.W.OpenLaw} {n k : Nat} {q : Program} {loose : List Str} {XP : (Str → Option Value) → Heap → Prop} {YP : World → Heap → Prop} {d : DefRec} {K : Params → PySem.W.Frag} {CX : World → CXT} {x : Str}
    (hn : l.most = some n) (hn2 : n ≤ sizeLine) (hdf : d.params.defaults = []) (hr : Room k callerA) (hY : ∀ (w : World) (h : Heap), YP w h → (K w.params).In h) (hrec : recsB q = true) (htab : ∀ w : World, tabsB (K w.params) = true)
    (F : ∀ (w : World) (mg : Str → Option Value) (fa : Addr) (h : Heap), (K w.params).In h → h.Ns mainGlobals mg → mg d.name = some (.ref fa) →
      ∃ fd : FuncData, (∀ (s : Shared) (u : Value), BindsTo s fd ⟨[u], []⟩ [(x, u)]) ∧
        ∀ base : Heap, (K w.params).In base → base.Ns mainGlobals mg → (∀ y ∈ TNames, ∀ c P, PySem.W.tabIn (K w.params) y = some (c, P) → GxR.TabB base mg c P) → FnOk l.prog w (K w.params) mg base (CX w) k fa fd [x] (spLaw (K w.params)))
    (h63 : n ≤ 63) (hCX : ∀ (w : World) (H : Hp) (s : Shared) (e : Value) (s' : Shared), CX w [] H s (fun _ _ _ => False) e s' → False) :
    PySem.W.WalkO q loose XP YP l.row.toRowW d [] (fun f vs => PySem.call f vs) := by
  refine Att.attach_callB hn hdf fun w s₀ s₁ mg mb fa o pm cd doc a vs ns G Y ho hd hcd hmg hobj hints hlen hbits hg => ?_
  have KX := hY w _ Y
  obtain ⟨fd, hb, hF⟩ := F w mg fa _ KX G.T.g hmg
  have tab : ∀ y ∈ TNames, ∀ c P, PySem.W.tabIn (K w.params) y = some (c, P) → PySem.W.CodeHd s₁.heap c P ∧ s₁.heap.get? P = some { cls := .none, data := .fields #[] } := fun y hy c P e => by
    have h1 := List.all_eq_true.mp hrec y hy
    obtain ⟨d', hd'⟩ := Option.isSome_iff_exists.mp h1
    exact PySem.W.tab_of G.T KX hd' e
  have mem : ∀ p : Addr × Addr, p ∈ TNames.filterMap (PySem.W.tabIn (K w.params)) → ∃ y ∈ TNames, PySem.W.tabIn (K w.params) y = some (p.1, p.2) := fun p hp => by
    obtain ⟨y, hy, e⟩ := List.mem_filterMap.mp hp
    exact ⟨y, hy, e⟩
  have tbk : ∀ {H : Hp}, (∀ p ∈ TNames.filterMap (PySem.W.tabIn (K w.params)), H p.2 = some (TabF p.2)) → TbOk (K w.params) H := fun {H} h P ⟨y, hy, c, e⟩ => h (c, P) (List.mem_filterMap.mpr ⟨y, hy, e⟩)
  refine law_callF (cs := TNames.filterMap (PySem.W.tabIn (K w.params))) (sp := spLaw (K w.params)) KX G.T.g G.T.b G.T.builtins G.T.nolimit hg (fun p hp => ?_) (fun p hp => ?_) (fun p hp => ?_) G.T.bmain hobj hints (Nat.le_trans hlen hn2) hr
    (fun base h1 h2 h3 => hF base h1 h2 fun y hy c P e => h3 (c, P) (List.mem_filterMap.mpr ⟨y, hy, e⟩)) hb (fun H hH hS => ⟨a, ns, rfl, hS, Nat.le_trans hlen h63, tbk hH, fun H' t => ⟨rfl, fun p hp => ?_⟩⟩) fun H e s' => hCX w H s₁ e s'
  · obtain ⟨y, hy, e⟩ := mem p hp
    exact (tab y hy _ _ e).2
  · obtain ⟨y, hy, e⟩ := mem p hp
    have h1 := List.all_eq_true.mp (htab w) y hy
    rw [e] at h1
    exact Option.isNone_iff_eq_none.mp h1
  · obtain ⟨y, hy, e⟩ := mem p hp
    exact (tab y hy _ _ e).1
  · obtain ⟨y, hy, e⟩ := mem p hp
    exact t p.2 ⟨y, hy, p.1, e⟩
section
variable {K : PySem.W.Frag} {mg : Str → Option Value} {h : Heap} {x : Str} {st : Stmt} {f : Addr}
theorem tab_mk {od an od2 : Option Addr} {sl sl2 : Array (Option Value)} {oc kV dc pm ct oc2 : Value} {cT PT : Addr} {vs : Array Value} (a : PySem.W.nsIn K mainGlobals x = some (some (.ref f)))
    (l : K.lookup f = some ⟨oc, od, .func (PySem.W.fnOf x x (defArgs st) (defBody st) (defScope st) .none kV dc pm an (.ref cT) ct), sl⟩) (lc : K.lookup cT = some ⟨oc2, od2, .fields vs, sl2⟩) (hv : vs[11]? = some (.ref PT)) : ∃ c P, PySem.W.tabIn K x = some (c, P) := by
  refine ⟨cT, PT, ?_⟩
  unfold PySem.W.tabIn
  rw [a]
  simp only [l]
  show (match K.lookup cT with
        | some ⟨_, _, .fields vs, _⟩ => (match (vs[11]? : Option Value) with
          | some (.ref P) => some (cT, P)
          | _ => none)
        | _ => none) = _
  simp only [lc, hv]
theorem law_mkT {P : Program} {w : World} {fa : Addr} {n : Nat} {PB : Heap → Prop} (X : K.In h) (G : h.Ns mainGlobals mg) (hfa : mg "law" = some (.ref fa)) {od an : Option Addr} {sl : Array (Option Value)} {oc kV dc pm cd ct : Value} (a : PySem.W.nsIn K mainGlobals "law" = some (some (.ref f)))
    (l : K.lookup f = some ⟨oc, od, .func (PySem.W.fnOf "law" "law" (defArgs st) (defBody st) (defScope st) .none kV dc pm an cd ct), sl⟩) (c : PySem.W.codeIn K cd "law" = true) (k : PySem.W.keepIn K (.ref f) = true)
    (hb : ∀ (s : Shared) (v : Value), BindsTo s (PySem.W.fnOf "law" "law" (defArgs st) (defBody st) (defScope st) .none kV dc pm an cd ct) ⟨[v], []⟩ [("_law_script", v)])
    (hF : ∀ (fd : FuncData) (base : Heap), PB base → Fun K "law" "law" st f fd → FnOk P w K mg base CX0 n f fd ["_law_script"] (spLaw K)) :
    ∃ fd : FuncData, (∀ (s : Shared) (v : Value), BindsTo s fd ⟨[v], []⟩ [("_law_script", v)]) ∧ ∀ base : Heap, K.In base → base.Ns mainGlobals mg → PB base → FnOk P w K mg base CX0 n fa fd ["_law_script"] (spLaw K) := by
  have e := hfa.symm.trans (PySem.W.mg_of X G a)
  cases e
  exact ⟨_, hb, fun base _ _ hp => hF _ base hp (fun_mk l c k)⟩
end
end Pu
/-! Pp: plain reasoning about results: what a mirror comes to. -/
namespace Pu
open PySem R
/-- (no rfl rules: the kernel is to follow the congruences) -/
theorem rb {α β : Type} (a : α) (f : α → R β) : (R.ret a).bind f = f a := Eq.trans rfl rfl
theorem wr {α : Type} (Q : α → Prop) (E : Nat → D → Prop) (a : α) : wp Q E (R.ret a) = Q a := Eq.trans rfl rfl
/-- comes to Q, raises nothing (a structure: nothing is to be unfolded by looking at it) -/
structure Ok {α : Type} (r : R α) (Q : α → Prop) : Prop where
  w : r.wp Q fun _ _ => False
theorem okr {α : Type} {Q : α → Prop} (a : α) : Ok (R.ret a) Q = Q a := propext ⟨fun h => h.w, fun h => ⟨h⟩⟩
section
variable {α β γ S S' B T : Type} {Q P : α → Prop}
theorem ok_step {r : R α} {f : α → R β} {Q : β → Prop} (h : Ok r P) (k : ∀ a, P a → Ok (f a) Q) : Ok (r.bind f) Q := ⟨wp_bind.mpr (wp_mono (fun a p => (k a p).w) (fun _ _ z => z) h.w)⟩
theorem ok_mono {r : R α} (h : Ok r P) (k : ∀ a, P a → Q a) : Ok r Q := ⟨wp_mono k (fun _ _ z => z) h.w⟩
theorem ok_ret {a : α} (h : Q a) : Ok (R.ret a) Q := ⟨h⟩
theorem ok_draw {n : Int} {Q : D → Prop} (hn : 0 < n) (h : ∀ i, 0 ≤ i → i < n → Q (.int i)) : Ok (drawR (.int n)) Q := by
  refine ⟨?_⟩
  unfold drawR
  simp only [hn, if_true]
  exact h
theorem ok_eq {r : R α} {a : α} (e : r = R.ret a) (h : Q a) : Ok r Q := by rw [e]; exact ⟨h⟩
theorem ok_and {r : R α} (h : Ok r P) (k : Ok r Q) : Ok r fun a => P a ∧ Q a := by
  have key : ∀ r : R α, r.wp P (fun _ _ => False) → r.wp Q (fun _ _ => False) → r.wp (fun a => P a ∧ Q a) (fun _ _ => False) := by
    intro r
    induction r with
    | ret a => exact fun h k => ⟨h, k⟩
    | exc c x => exact fun h _ => h
    | bad => exact fun h _ => h
    | pick n f ih => exact fun h k i a b => ih i (h i a b) (k i a b)
  exact ⟨key r h.w k.w⟩
theorem nx_ok {r : R α} {E : Nat → D → Prop} (h : Ok r Q) : (nx r).wp Q E := by
  have key : ∀ r : R α, r.wp Q (fun _ _ => False) → (nx r).wp Q E := by
    intro r
    induction r with
    | ret a => exact fun h => h
    | exc c x => exact fun h => h.elim
    | bad => exact fun h => h.elim
    | pick n f ih => exact fun h i a b => ih i (h i a b)
  exact key r h.w
theorem ok_seq {r : R (Out S B T)} {f : S → R (Out S' B T)} {Q : Out S' B T → Prop} (h : Ok r fun o => match o with
    | .nx s => Ok (f s) Q
    | .bk b => Q (.bk b)
    | .ct b => Q (.ct b)
    | .rt d t => Q (.rt d t)) : Ok (seqR r f) Q := by
  refine ok_step h fun o h => ?_
  cases o with
  | nx s => exact h
  | bk b => exact ⟨h⟩
  | ct b => exact ⟨h⟩
  | rt d t => exact ⟨h⟩
theorem ok_end {r : R (Out Unit Empty T)} {Q : D → Prop} (h : Ok r fun o => match o with
    | .nx _ => Q .none
    | .rt d _ => Q d
    | .bk b => True
    | .ct b => True) : Ok (endR0 r) Q := by
  refine ok_step h fun o h => ?_
  cases o with
  | nx s => exact ⟨h⟩
  | rt d t => exact ⟨h⟩
  | bk b => exact b.elim
  | ct b => exact b.elim
theorem ok_up {r : R (Out Empty B T)} {Q : Out S B T → Prop} (h : Ok r fun o => match o with
    | .nx s => True
    | .bk b => Q (.bk b)
    | .ct b => Q (.ct b)
    | .rt d t => Q (.rt d t)) : Ok (up r) Q := by
  refine ok_step h fun o h => ?_
  cases o with
  | nx s => exact s.elim
  | bk b => exact ⟨h⟩
  | ct b => exact ⟨h⟩
  | rt d t => exact ⟨h⟩
theorem ok_for {f : α → S → R (Out S S T)} {Q : Out S B T → Prop} {Inv : Nat → S → Prop} : ∀ {ds : List α} {s : S} (i : Nat), Inv i s →
    (∀ (j : Nat) (d : α) (s : S), ds[j]? = some d → Inv (i + j) s → Ok (f d s) fun o => match o with
      | .nx s' => Inv (i + j + 1) s'
      | .ct s' => Inv (i + j + 1) s'
      | .bk s' => Q (.nx s')
      | .rt d t => Q (.rt d t)) → (∀ s, Inv (i + ds.length) s → Q (.nx s)) → Ok (forR f ds s) Q
  | [], s, i, h0, hs, he => ⟨he s h0⟩
  | d :: ds, s, i, h0, hs, he => by
    unfold forR
    refine ok_step (hs 0 d s rfl h0) fun o h => ?_
    have go : ∀ s', Inv (i + 0 + 1) s' → Ok (forR f ds s') Q := fun s' h => ok_for (i + 1) h (fun j d s e hi => by
      have := hs (j + 1) d s (by simpa using e) (by rw [show i + (j + 1) = i + 1 + j by omega]; exact hi)
      rw [show i + (j + 1) + 1 = i + 1 + j + 1 by omega] at this
      exact this) fun s hi => he s (by rw [List.length_cons, show i + (ds.length + 1) = i + 1 + ds.length by omega]; exact hi)
    cases o with
    | nx s' => exact go s' h
    | ct s' => exact go s' h
    | bk s' => exact ⟨h⟩
    | rt d t => exact ⟨h⟩
/-- the same from the start -/
theorem ok_for0 {f : α → S → R (Out S S T)} {Q : Out S B T → Prop} {ds : List α} {s : S} (Inv : Nat → S → Prop) (h0 : Inv 0 s)
    (hs : ∀ (j : Nat) (d : α) (s : S), ds[j]? = some d → Inv j s → Ok (f d s) fun o => match o with
      | .nx s' => Inv (j + 1) s'
      | .ct s' => Inv (j + 1) s'
      | .bk s' => Q (.nx s')
      | .rt d t => Q (.rt d t)) (he : ∀ s, Inv ds.length s → Q (.nx s)) : Ok (forR f ds s) Q :=
  ok_for (Inv := Inv) 0 h0 (fun j d s e hi => by
    rw [Nat.zero_add] at hi ⊢
    exact hs j d s e hi) fun s hi => he s (by rw [Nat.zero_add] at hi; exact hi)
theorem rangeL_get {lo : Int} {n j : Nat} {d : D} (h : (rangeL lo n)[j]? = some d) : j < n ∧ d = .int (lo + j) := by
  unfold rangeL at h
  rw [List.getElem?_map] at h
  by_cases hj : j < n
  · rw [List.getElem?_range hj] at h
    cases h
    exact ⟨hj, rfl⟩
  · rw [List.getElem?_eq_none (by rw [List.length_range]; omega)] at h
    cases h
theorem rangeL_length {lo : Int} {n : Nat} : (rangeL lo n).length = n := by unfold rangeL; rw [List.length_map, List.length_range]
/-- for k in range(n) -/
theorem ok_range {f : D → S → R (Out S S T)} {Q : Out S B T → Prop} {n : Nat} {s : S} (Inv : Nat → S → Prop) (h0 : Inv 0 s)
    (hs : ∀ (j : Nat) (s : S), j < n → Inv j s → Ok (f (.int j) s) fun o => match o with
      | .nx s' => Inv (j + 1) s'
      | .ct s' => Inv (j + 1) s'
      | .bk s' => Q (.nx s')
      | .rt d t => Q (.rt d t)) (he : ∀ s, Inv n s → Q (.nx s)) : Ok (forR f (rangeL 0 n) s) Q :=
  ok_for0 Inv h0 (fun j d s e hi => by
    obtain ⟨hj, rfl⟩ := rangeL_get e
    rw [Int.zero_add]
    exact hs j s hj hi) fun s hi => he s (by rw [rangeL_length] at hi; exact hi)
/-! comprehensions -/
theorem comp_eq {f : α → R β} {g : α → β} : ∀ {ds : List α} {acc : List β}, (∀ d ∈ ds, f d = R.ret (g d)) → acc.length + ds.length ≤ sizeLine → compR (fun _ => R.ret true) f ds acc = R.ret (acc ++ ds.map g)
  | [], acc, _, _ => by unfold compR; simp
  | d :: ds, acc, h, hl => by
    unfold compR
    rw [List.length_cons] at hl
    rw [h d List.mem_cons_self]
    simp only [nx_ret, ret_bind, if_true]
    rw [if_pos (by omega), comp_eq (fun d hd => h d (List.mem_cons_of_mem _ hd)) (by rw [List.length_append]; simp only [List.length_cons, List.length_nil]; omega)]
    simp
theorem comp_range {f : D → R β} {g : Nat → β} {n : Nat} (hn : n ≤ sizeLine) (h : ∀ k : Nat, k < n → f (.int k) = R.ret (g k)) : compR (fun _ => R.ret true) f (rangeL 0 n) [] = R.ret ((List.range n).map g) := by
  have e : ∀ d ∈ rangeL 0 n, f d = R.ret ((fun d => match d with | .int k => g k.toNat | _ => g 0) d) := fun d hd => by
    unfold rangeL at hd
    obtain ⟨k, hk, rfl⟩ := List.mem_map.mp hd
    rw [Int.zero_add, h k (List.mem_range.mp hk)]
    rfl
  rw [comp_eq e (by rw [rangeL_length]; simpa using hn)]
  unfold rangeL
  rw [List.map_map, List.nil_append]
  congr 1
  apply List.map_congr_left
  intro k _
  show g ((0 : Int) + (k : Int)).toNat = g k
  congr 1
  omega
/-- with draws: every item comes to something that is P -/
theorem comp_ok {f : α → R β} {P : α → β → Prop} {Q : List β → Prop} : ∀ {ds : List α} {acc : List β}, (∀ d ∈ ds, Ok (f d) (P d)) → acc.length + ds.length ≤ sizeLine → (∀ ys, ys.length = ds.length → (∀ (i : Nat) (d : α) (y : β), ds[i]? = some d → ys[i]? = some y → P d y) → Q (acc ++ ys)) → Ok (compR (fun _ => R.ret true) f ds acc) Q
  | [], acc, _, _, k => by
    unfold compR
    have := k [] rfl (fun i d y e => by simp at e)
    rw [List.append_nil] at this
    exact ⟨this⟩
  | d :: ds, acc, h, hl, k => by
    unfold compR
    rw [List.length_cons] at hl
    simp only [nx_ret, ret_bind, if_true]
    refine ok_step (P := P d) ⟨nx_ok (h d List.mem_cons_self)⟩ fun y hy => ?_
    rw [if_pos (by omega)]
    refine comp_ok (fun d hd => h d (List.mem_cons_of_mem _ hd)) (by rw [List.length_append]; simp only [List.length_cons, List.length_nil]; omega) fun ys hy2 hp => ?_
    rw [List.append_assoc]
    refine k (y :: ys) (by rw [List.length_cons, List.length_cons, hy2]) fun i d' y' e1 e2 => ?_
    cases i with
    | zero => simp at e1 e2; subst e1 e2; exact hy
    | succ i => exact hp i d' y' (by simpa using e1) (by simpa using e2)
end
/-! ### stocks: tuples by places -/
def vecL (n : Nat) (s : Nat → Int) : List D := (List.range n).map fun k => PyData.int (s k)
def vec (n : Nat) (s : Nat → Int) : D := .tuple (vecL n s)
theorem vecL_length {n : Nat} {s : Nat → Int} : (vecL n s).length = n := by unfold vecL; rw [List.length_map, List.length_range]
theorem vecL_get {n k : Nat} {s : Nat → Int} (h : k < n) : (vecL n s)[k]? = some (.int (s k)) := by unfold vecL; rw [List.getElem?_map, List.getElem?_range h]; rfl
theorem vecL_congr {n : Nat} {a b : Nat → Int} (h : ∀ k, k < n → a k = b k) : vecL n a = vecL n b := List.map_congr_left fun k hk => by rw [h k (List.mem_range.mp hk)]
theorem vec_congr {n : Nat} {a b : Nat → Int} (h : ∀ k, k < n → a k = b k) : vec n a = vec n b := by unfold vec; rw [vecL_congr h]
theorem vecL_inj {n : Nat} {a b : Nat → Int} (h : vecL n a = vecL n b) (k : Nat) (hk : k < n) : a k = b k := by
  have e := congrArg (fun l : List D => l[k]?) h
  simp only [vecL_get hk] at e
  injection e with e
  injection e
theorem vec_inj {n : Nat} {a b : Nat → Int} (h : vec n a = vec n b) (k : Nat) (hk : k < n) : a k = b k := vecL_inj (by unfold vec at h; injection h) k hk
/-- a list of ints is one -/
theorem vecL_of (ns : List Int) : ns.map PyData.int = vecL ns.length fun k => ns.getD k 0 := by
  apply List.ext_getElem?
  intro i
  by_cases h : i < ns.length
  · rw [vecL_get h, List.getElem?_map, List.getElem?_eq_getElem h]
    simp [List.getD, List.getElem?_eq_getElem h]
  · rw [List.getElem?_eq_none (by rw [List.length_map]; omega), List.getElem?_eq_none (by rw [vecL_length]; omega)]
theorem at_nat {xs : List D} {k : Nat} {d : D} (h : xs[k]? = some d) : L2.atI xs (k : Int) = some d := L2.atI_nat h
theorem ix_tup {xs : List D} {k : Nat} {d : D} (h : xs[k]? = some d) : ixR (.tuple xs) (.int (k : Int)) = R.ret d := by show optR (L2.atI xs (k : Int)) = _; rw [at_nat h]; rfl
theorem ix_lst {xs : List D} {k : Nat} {d : D} (h : xs[k]? = some d) : ixR (.list xs) (.int (k : Int)) = R.ret d := by show optR (L2.atI xs (k : Int)) = _; rw [at_nat h]; rfl
theorem ix_vec {n k : Nat} {s : Nat → Int} (h : k < n) : ixR (vec n s) (.int (k : Int)) = R.ret (.int (s k)) := ix_tup (vecL_get h)
theorem ix_vecL {n k : Nat} {s : Nat → Int} (h : k < n) : ixR (.list (vecL n s)) (.int (k : Int)) = R.ret (.int (s k)) := ix_lst (vecL_get h)
theorem ix0 {x : D} {xs : List D} : ixR (.tuple (x :: xs)) (.int 0) = R.ret x := ix_tup (k := 0) rfl
theorem ix1 {x y : D} {xs : List D} : ixR (.tuple (x :: y :: xs)) (.int 1) = R.ret y := ix_tup (k := 1) rfl
theorem ix2 {x y z : D} {xs : List D} : ixR (.tuple (x :: y :: z :: xs)) (.int 2) = R.ret z := ix_tup (k := 2) rfl
theorem ix3 {x y z w : D} {xs : List D} : ixR (.tuple (x :: y :: z :: w :: xs)) (.int 3) = R.ret w := ix_tup (k := 3) rfl
theorem len_vec {n : Nat} {s : Nat → Int} : lenR (vec n s) = R.ret (.int n) := by show R.ret (PyData.int ((vecL n s).length : Nat)) = _; rw [vecL_length]
theorem len_vecL {n : Nat} {s : Nat → Int} : lenR (.list (vecL n s)) = R.ret (.int n) := by show R.ret (PyData.int ((vecL n s).length : Nat)) = _; rw [vecL_length]
theorem items_vec {n : Nat} {s : Nat → Int} : itemsR (vec n s) = R.ret (vecL n s) := Eq.trans rfl rfl
theorem rng_nat {n : Nat} (h : n < 4611686018427387904) : rng1R (.int (n : Int)) = R.ret (rangeL 0 n) := by
  have hc : -(2 ^ 62) ≤ (n : Int) ∧ (n : Int) < 2 ^ 62 := ⟨by omega, by omega⟩
  simp only [rng1R, hc, and_self, if_true, Int.toNat_natCast]
theorem comp_vec {β : Type} {f : D → R β} {g : Nat → β} {n : Nat} {s : Nat → Int} (hn : n ≤ sizeLine) (h : ∀ k : Nat, k < n → f (.int (s k)) = R.ret (g k)) : compR (fun _ => R.ret true) f (vecL n s) [] = R.ret ((List.range n).map g) := by
  have key : ∀ (l : List Nat) (acc : List β), (∀ k ∈ l, k < n) → acc.length + l.length ≤ sizeLine → compR (fun _ => R.ret true) f (l.map fun k => PyData.int (s k)) acc = R.ret (acc ++ l.map g) := by
    intro l
    induction l with
    | nil => intro acc _ _; simp [compR]
    | cons k l ih =>
      intro acc hl hz
      rw [List.map_cons]
      unfold compR
      rw [List.length_cons] at hz
      rw [h k (hl k List.mem_cons_self)]
      simp only [nx_ret, ret_bind, if_true]
      rw [if_pos (by omega), ih _ (fun k hk => hl k (List.mem_cons_of_mem _ hk)) (by rw [List.length_append]; simp only [List.length_cons, List.length_nil]; omega)]
      simp
  unfold vecL
  rw [key _ _ (fun k hk => List.mem_range.mp hk) (by rw [List.length_range]; simpa using hn), List.nil_append]
/-! ### the operations at their data -/
section
variable {i j : Int} {a b : Bool} {x y : Str} {xs ys : List D}
@[simp] theorem add_int : addR (.int i) (.int j) = R.ret (.int (i + j)) := Eq.trans rfl rfl
@[simp] theorem sub_int : subR (.int i) (.int j) = R.ret (.int (i - j)) := Eq.trans rfl rfl
@[simp] theorem neg_int : negR (.int i) = R.ret (.int (-i)) := Eq.trans rfl rfl
@[simp] theorem lt_int : ltR (.int i) (.int j) = R.ret (.bool (decide (i < j))) := Eq.trans rfl rfl
@[simp] theorem le_int : leR (.int i) (.int j) = R.ret (.bool (decide (i ≤ j))) := Eq.trans rfl rfl
@[simp] theorem gt_int : gtR (.int i) (.int j) = R.ret (.bool (decide (j < i))) := Eq.trans rfl rfl
@[simp] theorem ge_int : geR (.int i) (.int j) = R.ret (.bool (decide (j ≤ i))) := Eq.trans rfl rfl
@[simp] theorem max_int : maxR (.int i) (.int j) = R.ret (.int (if j > i then j else i)) := Eq.trans rfl rfl
@[simp] theorem min_int : minR (.int i) (.int j) = R.ret (.int (if j < i then j else i)) := Eq.trans rfl rfl
@[simp] theorem bool_b : boolR (.bool a) = R.ret a := Eq.trans rfl rfl
@[simp] theorem not_b : notR (.bool a) = R.ret (.bool (!a)) := Eq.trans rfl rfl
@[simp] theorem int_int : intR (.int i) = R.ret (.int i) := Eq.trans rfl rfl
@[simp] theorem abs_int : absR (.int i) = R.ret (.int (if i < 0 then -i else i)) := Eq.trans rfl rfl
@[simp] theorem part_int : partR (.int i) = R.ret (some i) := Eq.trans rfl rfl
@[simp] theorem tuple_l : tupleR (.list xs) = R.ret (.tuple xs) := Eq.trans rfl rfl
@[simp] theorem tuple_t : tupleR (.tuple xs) = R.ret (.tuple xs) := Eq.trans rfl rfl
@[simp] theorem list_l : listR (.list xs) = R.ret (.list xs) := Eq.trans rfl rfl
@[simp] theorem list_t : listR (.tuple xs) = R.ret (.list xs) := Eq.trans rfl rfl
@[simp] theorem len_l : lenR (.list xs) = R.ret (.int xs.length) := Eq.trans rfl rfl
@[simp] theorem len_t : lenR (.tuple xs) = R.ret (.int xs.length) := Eq.trans rfl rfl
@[simp] theorem items_l : itemsR (.list xs) = R.ret xs := Eq.trans rfl rfl
@[simp] theorem items_t : itemsR (.tuple xs) = R.ret xs := Eq.trans rfl rfl
theorem unp2_t {α : Type} {x y : D} {f : D → D → R α} : unp2 (.tuple [x, y]) f = f x y := Eq.trans rfl rfl
theorem unp3_t {α : Type} {x y z : D} {f : D → D → D → R α} : unp3 (.tuple [x, y, z]) f = f x y z := Eq.trans rfl rfl
theorem unp4_t {α : Type} {x y z w : D} {f : D → D → D → D → R α} : unp4 (.tuple [x, y, z, w]) f = f x y z w := Eq.trans rfl rfl
theorem mul_int (h : mulOk i j) : mulR (.int i) (.int j) = R.ret (.int (i * j)) := by simp only [mulR, h, if_true]
theorem mod_int (h : j ≠ 0) : modR (.int i) (.int j) = R.ret (.int (i.fmod j)) := by simp only [modR, h, ne_eq, not_false_eq_true, if_true]
theorem fdiv_int (h : j ≠ 0) (h2 : j.natAbs < fdLine) : fdivR (.int i) (.int j) = R.ret (.int (i.fdiv j)) := by
  have hc : CDivL i j := ⟨h, h2⟩
  simp only [fdivR, hc, if_true]
theorem fd_small {n : Nat} (h : n < 1073741824) : n < fdLine := Nat.lt_trans h (by unfold fdLine; decide)
theorem eq_int : eqR (.int i) (.int j) = R.ret (.bool (decide (i = j))) := by
  unfold eqR
  rw [if_pos ⟨by unfold SeqAt.shaped; rfl, by unfold SeqAt.shaped; rfl⟩]
  unfold PyData.eqv
  rfl
theorem ne_int : neR (.int i) (.int j) = R.ret (.bool (!decide (i = j))) := by
  unfold neR
  rw [if_pos ⟨by unfold SeqAt.shaped; rfl, by unfold SeqAt.shaped; rfl⟩]
  unfold PyData.eqv
  rfl
end
/-! ### lists of one kind -/
theorem ints_all : ∀ ns : List Int, allSome intOf (ns.map PyData.int) = some ns
  | [] => rfl
  | n :: ns => by rw [List.map_cons]; unfold allSome; rw [ints_all ns]; rfl
theorem bools_all : ∀ ns : List Bool, allSome boolOf (ns.map PyData.bool) = some ns
  | [] => rfl
  | n :: ns => by rw [List.map_cons]; unfold allSome; rw [bools_all ns]; rfl
theorem strs_all : ∀ ns : List Str, allSome strOf (ns.map PyData.str) = some ns
  | [] => rfl
  | n :: ns => by rw [List.map_cons]; unfold allSome; rw [strs_all ns]; rfl
theorem sum_ints (ns : List Int) : sumR (.list (ns.map PyData.int)) = R.ret (.int ns.sum) := by simp only [sumR, ints_all]
theorem sum_intsT (ns : List Int) : sumR (.tuple (ns.map PyData.int)) = R.ret (.int ns.sum) := by simp only [sumR, ints_all]
theorem any_bools (ns : List Bool) : anyR (.list (ns.map PyData.bool)) = R.ret (.bool (ns.any id)) := by simp only [anyR, bools_all]
theorem all_bools (ns : List Bool) : allR (.list (ns.map PyData.bool)) = R.ret (.bool (ns.all id)) := by simp only [allR, bools_all]
theorem any_range {n : Nat} (p : Nat → Prop) [DecidablePred p] : anyR (.list ((List.range n).map fun k => PyData.bool (decide (p k)))) = R.ret (.bool (decide (∃ k, k < n ∧ p k))) := by
  have e : (List.range n).map (fun k => PyData.bool (decide (p k))) = ((List.range n).map fun k => decide (p k)).map PyData.bool := by rw [List.map_map]; rfl
  rw [e, any_bools]
  congr 2
  apply Bool.eq_iff_iff.mpr
  rw [List.any_eq_true, decide_eq_true_iff]
  constructor
  · rintro ⟨x, hx, h⟩
    obtain ⟨k, hk, rfl⟩ := List.mem_map.mp hx
    exact ⟨k, List.mem_range.mp hk, of_decide_eq_true h⟩
  · rintro ⟨k, hk, h⟩
    exact ⟨decide (p k), List.mem_map.mpr ⟨k, List.mem_range.mpr hk, rfl⟩, decide_eq_true h⟩
/-! ### data without bools and dicts: == is equality -/
def Pl : Nat → D → Prop
  | _, .none => True
  | _, .int _ => True
  | _, .str x => PyData.canLay0 (.str x) = true
  | k + 1, .tuple xs => ∀ x ∈ xs, Pl k x
  | k + 1, .list xs => ∀ x ∈ xs, Pl k x
  | _, _ => False
theorem Pl.lay : ∀ {k : Nat} {d : D}, Pl k d → d.canLay0 = true ∧ d.depth ≤ k
  | k, .none, h => ⟨rfl, Nat.zero_le _⟩
  | k, .int _, h => ⟨rfl, Nat.zero_le _⟩
  | k, .str x, h => ⟨by unfold Pl at h; exact h, Nat.zero_le _⟩
  | k + 1, .tuple xs, h => by
    have all : ∀ xs : List D, (∀ x ∈ xs, Pl k x) → PyData.canLayAll0 xs = true ∧ PyData.depthAll xs ≤ k := by
      intro xs
      induction xs with
      | nil => exact fun _ => ⟨rfl, Nat.zero_le _⟩
      | cons x xs ih =>
        intro h
        have h1 := Pl.lay (h x List.mem_cons_self)
        have h2 := ih fun y hy => h y (List.mem_cons_of_mem _ hy)
        unfold PyData.canLayAll0 PyData.depthAll
        rw [h1.1, h2.1]
        exact ⟨rfl, Nat.max_le.mpr ⟨h1.2, h2.2⟩⟩
    unfold Pl at h
    have := all xs h
    unfold PyData.canLay0 PyData.depth
    exact ⟨this.1, Nat.succ_le_succ this.2⟩
  | k + 1, .list xs, h => by
    have all : ∀ xs : List D, (∀ x ∈ xs, Pl k x) → PyData.canLayAll0 xs = true ∧ PyData.depthAll xs ≤ k := by
      intro xs
      induction xs with
      | nil => exact fun _ => ⟨rfl, Nat.zero_le _⟩
      | cons x xs ih =>
        intro h
        have h1 := Pl.lay (h x List.mem_cons_self)
        have h2 := ih fun y hy => h y (List.mem_cons_of_mem _ hy)
        unfold PyData.canLayAll0 PyData.depthAll
        rw [h1.1, h2.1]
        exact ⟨rfl, Nat.max_le.mpr ⟨h1.2, h2.2⟩⟩
    unfold Pl at h
    have := all xs h
    unfold PyData.canLay0 PyData.depth
    exact ⟨this.1, Nat.succ_le_succ this.2⟩
  | 0, .tuple xs, h => by unfold Pl at h; exact h.elim
  | 0, .list xs, h => by unfold Pl at h; exact h.elim
  | _, .bool _, h => by unfold Pl at h; exact h.elim
  | _, .dict _, h => by unfold Pl at h; exact h.elim
theorem Pl.shaped {k : Nat} {d : D} (h : Pl k d) (hk : k ≤ 64) : SeqAt.shaped d = true := by
  unfold SeqAt.shaped
  rw [h.lay.1, Bool.true_and]
  exact decide_eq_true (Nat.le_trans h.lay.2 hk)
theorem eqvAll_iff {P : D → Prop} (ih : ∀ x y, P x → P y → (PyData.eqv x y = true ↔ x = y)) : ∀ xs ys : List D, (∀ x ∈ xs, P x) → (∀ x ∈ ys, P x) → (PyData.eqvAll xs ys = true ↔ xs = ys)
  | [], [], _, _ => by simp [PyData.eqvAll]
  | [], _ :: _, _, _ => by simp [PyData.eqvAll]
  | _ :: _, [], _, _ => by simp [PyData.eqvAll]
  | x :: xs, y :: ys, hx, hy => by
    rw [PyData.eqvAll, Bool.and_eq_true, ih x y (hx x List.mem_cons_self) (hy y List.mem_cons_self), eqvAll_iff ih xs ys (fun z hz => hx z (List.mem_cons_of_mem _ hz)) fun z hz => hy z (List.mem_cons_of_mem _ hz)]
    constructor
    · rintro ⟨rfl, rfl⟩; rfl
    · intro e; cases e; exact ⟨rfl, rfl⟩
theorem Pl.eqv : ∀ {k : Nat} {x y : D}, Pl k x → Pl k y → (PyData.eqv x y = true ↔ x = y)
  | 0, x, y, hx, hy => by
    cases x <;> cases y <;> first | (unfold Pl at hx; exact hx.elim) | (unfold Pl at hy; exact hy.elim) | simp [PyData.eqv]
  | k + 1, x, y, hx, hy => by
    have ih : ∀ x y, Pl k x → Pl k y → (PyData.eqv x y = true ↔ x = y) := fun x y => Pl.eqv
    cases x <;> cases y <;> first | (unfold Pl at hx; exact hx.elim) | (unfold Pl at hy; exact hy.elim) | (unfold Pl at hx hy; simp only [PyData.eqv, PyData.tuple.injEq, PyData.list.injEq]; exact eqvAll_iff ih _ _ hx hy) | simp [PyData.eqv]
theorem eq_pl {k : Nat} {x y : D} (hx : Pl k x) (hy : Pl k y) (hk : k ≤ 64) : ∃ b, eqR x y = R.ret (.bool b) ∧ (b = true ↔ x = y) :=
  ⟨_, by unfold eqR; rw [if_pos ⟨hx.shaped hk, hy.shaped hk⟩], hx.eqv hy⟩
theorem ne_pl {k : Nat} {x y : D} (hx : Pl k x) (hy : Pl k y) (hk : k ≤ 64) : ∃ b, neR x y = R.ret (.bool (!b)) ∧ (b = true ↔ x = y) :=
  ⟨_, by unfold neR; rw [if_pos ⟨hx.shaped hk, hy.shaped hk⟩], hx.eqv hy⟩
theorem eq_yes {k : Nat} {x : D} (hx : Pl k x) (hk : k ≤ 64) : eqR x x = R.ret (.bool true) := by
  obtain ⟨b, e, h⟩ := eq_pl hx hx hk
  rw [e, h.mpr rfl]
theorem eq_no {k : Nat} {x y : D} (hx : Pl k x) (hy : Pl k y) (hk : k ≤ 64) (n : x ≠ y) : eqR x y = R.ret (.bool false) := by
  obtain ⟨b, e, h⟩ := eq_pl hx hy hk
  rw [e]
  cases b with
  | false => rfl
  | true => exact absurd (h.mp rfl) n
theorem ne_no {k : Nat} {x : D} (hx : Pl k x) (hk : k ≤ 64) : neR x x = R.ret (.bool false) := by
  obtain ⟨b, e, h⟩ := ne_pl hx hx hk
  rw [e, h.mpr rfl]
  rfl
theorem ne_yes {k : Nat} {x y : D} (hx : Pl k x) (hy : Pl k y) (hk : k ≤ 64) (n : x ≠ y) : neR x y = R.ret (.bool true) := by
  obtain ⟨b, e, h⟩ := ne_pl hx hy hk
  rw [e]
  cases b with
  | false => rfl
  | true => exact absurd (h.mp rfl) n
theorem pl_int {k : Nat} {i : Int} : Pl k (.int i) := by unfold Pl; trivial
theorem pl_none {k : Nat} : Pl k .none := by unfold Pl; trivial
theorem pl_vec {n : Nat} {s : Nat → Int} {k : Nat} : Pl (k + 1) (vec n s) := by
  unfold vec Pl
  intro x hx
  unfold vecL at hx
  obtain ⟨j, _, rfl⟩ := List.mem_map.mp hx
  exact pl_int
/-! ### draws and texts -/
theorem comp_all {α β : Type} {f : α → R β} {P : β → Prop} {Q : List β → Prop} {ds : List α} (h : ∀ d ∈ ds, Ok (f d) P) (hl : ds.length ≤ sizeLine) (k : ∀ ys, ys.length = ds.length → (∀ y ∈ ys, P y) → Q ys) : Ok (compR (fun _ => R.ret true) f ds []) Q :=
  comp_ok (P := fun _ => P) (acc := []) h (by simpa using hl) fun ys hy hp => by
    rw [List.nil_append]
    refine k ys hy fun y hm => ?_
    obtain ⟨i, hi, e⟩ := List.mem_iff_getElem.mp hm
    have hd : i < ds.length := by omega
    exact hp i ds[i] y (List.getElem?_eq_getElem hd) (by rw [List.getElem?_eq_getElem hi, e])
theorem all_map {α : Type} {g : α → D} {P : α → Prop} : ∀ {ys : List D}, (∀ y ∈ ys, ∃ z, y = g z ∧ P z) → ∃ zs : List α, ys = zs.map g ∧ ∀ z ∈ zs, P z
  | [], _ => ⟨[], rfl, by simp⟩
  | y :: ys, h => by
    obtain ⟨z, rfl, hz⟩ := h y List.mem_cons_self
    obtain ⟨zs, rfl, hzs⟩ := all_map fun y hy => h y (List.mem_cons_of_mem _ hy)
    exact ⟨z :: zs, rfl, fun x hx => by
      rcases List.mem_cons.mp hx with rfl | hx
      · exact hz
      · exact hzs x hx⟩
theorem ints_vec {P : Nat → Int → Prop} {n : Nat} {ys : List D} (hl : ys.length = n) (h : ∀ (k : Nat) (y : D), ys[k]? = some y → ∃ z, y = .int z ∧ P k z) : ∃ t : Nat → Int, ys = vecL n t ∧ (∀ k, k < n → P k (t k)) ∧ ∀ k, n ≤ k → t k = 0 := by
  obtain ⟨zs, e, _⟩ := all_map (g := PyData.int) (P := fun _ => True) (ys := ys) fun y hy => by
    obtain ⟨i, hi, e⟩ := List.mem_iff_getElem.mp hy
    obtain ⟨z, e2, _⟩ := h i y (by rw [List.getElem?_eq_getElem hi, e])
    exact ⟨z, e2, trivial⟩
  subst e
  rw [List.length_map] at hl
  refine ⟨fun k => zs.getD k 0, by rw [vecL_of, hl], fun k hk => ?_, fun k hk => ?_⟩
  · obtain ⟨z, e2, hz⟩ := h k (.int (zs[k]'(by omega))) (by rw [List.getElem?_map, List.getElem?_eq_getElem (by omega)]; rfl)
    injection e2 with e2
    rw [← e2] at hz
    simp only [List.getD, List.getElem?_eq_getElem (show k < zs.length by omega), Option.getD_some]
    exact hz
  · simp only [List.getD, List.getElem?_eq_none (show zs.length ≤ k by omega), Option.getD_none]
/-- an int for each place -/
theorem comp_vec_ok {f : D → R D} {n : Nat} {s : Nat → Int} {P : Nat → Int → Prop} (hn : n ≤ sizeLine) (h : ∀ k, k < n → Ok (f (.int (s k))) fun y => ∃ z, y = .int z ∧ P k z) :
    Ok (compR (fun _ => R.ret true) f (vecL n s) []) fun ys => ∃ t : Nat → Int, ys = vecL n t ∧ (∀ k, k < n → P k (t k)) ∧ ∀ k, n ≤ k → t k = 0 := by
  have hs : ∀ (l : List Nat) (m : Nat) (acc : List D), (∀ i k, l[i]? = some k → k = m + i ∧ k < n) → acc.length = m → acc.length + l.length ≤ sizeLine → (∀ (k : Nat) (y : D), acc[k]? = some y → ∃ z, y = .int z ∧ P k z) →
      Ok (compR (fun _ => R.ret true) f (l.map fun k => PyData.int (s k)) acc) fun ys => ys.length = m + l.length ∧ ∀ (k : Nat) (y : D), ys[k]? = some y → ∃ z, y = .int z ∧ P k z := by
    intro l
    induction l with
    | nil => intro m acc _ hm _ ha; exact ⟨⟨by simpa using hm, ha⟩⟩
    | cons j l ih =>
      intro m acc hl hm hz ha
      rw [List.map_cons]
      unfold compR
      simp only [nx_ret, rb, if_true]
      rw [List.length_cons] at hz
      obtain ⟨e0, h0⟩ := hl 0 j rfl
      refine ok_step ⟨nx_ok (h j h0)⟩ fun y hy => ?_
      rw [if_pos (by omega)]
      refine ok_mono (ih (m + 1) (acc ++ [y]) (fun i k e => ?_) (by rw [List.length_append, hm]; rfl) (by rw [List.length_append]; simp only [List.length_cons, List.length_nil]; omega) fun k y' e => ?_) fun ys hys => ⟨by rw [hys.1, List.length_cons]; omega, hys.2⟩
      · obtain ⟨e1, e2⟩ := hl (i + 1) k (by simpa using e)
        exact ⟨by omega, e2⟩
      · by_cases hk : k < acc.length
        · rw [List.getElem?_append_left hk] at e
          exact ha k y' e
        · rw [List.getElem?_append_right (by omega)] at e
          have hk0 : k - acc.length = 0 := by
            by_cases hz : k - acc.length = 0
            · exact hz
            · rw [List.getElem?_eq_none (by simp only [List.length_cons, List.length_nil]; omega)] at e; cases e
          rw [hk0] at e
          cases e
          obtain ⟨z, e3, hz⟩ := hy
          exact ⟨z, e3, by rw [show k = j by omega]; exact hz⟩
  unfold vecL
  refine ok_mono (hs (List.range n) 0 [] (fun i k e => ?_) rfl (by simpa using hn) fun k y e => by simp at e) fun ys hys => ?_
  · by_cases hi : i < n
    · rw [List.getElem?_range hi] at e
      cases e
      exact ⟨by omega, hi⟩
    · rw [List.getElem?_eq_none (by rw [List.length_range]; omega)] at e; cases e
  · rw [List.length_range, Nat.zero_add] at hys
    exact ints_vec hys.1 hys.2
/-- an int for each k of range(n) -/
theorem comp_range_ok {f : D → R D} {n : Nat} {P : Nat → Int → Prop} (hn : n ≤ sizeLine) (h : ∀ k : Nat, k < n → Ok (f (.int (k : Int))) fun y => ∃ z, y = .int z ∧ P k z) :
    Ok (compR (fun _ => R.ret true) f (rangeL 0 n) []) fun ys => ∃ t : Nat → Int, ys = vecL n t ∧ (∀ k, k < n → P k (t k)) ∧ ∀ k, n ≤ k → t k = 0 := by
  have e : rangeL 0 n = vecL n fun k => (k : Int) := by
    unfold rangeL vecL
    exact List.map_congr_left fun k _ => by rw [Int.zero_add]
  rw [e]
  exact comp_vec_ok hn h
theorem draw_lit {n : Int} {k : Nat} (h : n = (k : Int)) (hk : 0 < k) : Ok (drawR (.int n)) fun d => ∃ i : Nat, i < k ∧ d = .int (i : Int) := by
  subst h
  exact ok_draw (by omega) fun i h0 h1 => ⟨i.toNat, by omega, by rw [Int.toNat_of_nonneg h0]⟩
theorem draw_pos {n : Int} (h : 0 < n) : Ok (drawR (.int n)) fun d => ∃ i : Int, 0 ≤ i ∧ i < n ∧ d = .int i := ok_draw h fun i h0 h1 => ⟨i, h0, h1, rfl⟩
theorem ix_ints {ns : List Int} {i : Nat} (h : i < ns.length) : ixR (.list (ns.map PyData.int)) (.int (i : Int)) = R.ret (.int ns[i]) := ix_lst (by rw [List.getElem?_map, List.getElem?_eq_getElem h]; rfl)
theorem ix_str {z : Str} {i : Nat} (h : i < z.length) (hz : z.length ≤ 1000) : ixR (.str z) (.int (i : Int)) = R.ret (.str ⟨#[z.cps[i]'h]⟩) := by
  show (if z.length ≤ sizeLine then (match L2.atI z.cps.toList (i : Int) with | some c => R.ret (PyData.str ⟨#[c]⟩) | none => bad) else bad) = _
  rw [if_pos (Nat.le_of_lt (L2.small1000 hz)), L2.atI_nat (show z.cps.toList[i]? = some (z.cps[i]'h) by rw [Array.getElem?_toList]; exact Array.getElem?_eq_getElem h)]
theorem add_str {i j : Str} (h : i.length + j.length ≤ 1000) : addR (.str i) (.str j) = R.ret (.str (i ++ j)) := by
  show (if i.length + j.length ≤ sizeLine then R.ret (PyData.str (i ++ j)) else bad) = _
  rw [if_pos (Nat.le_of_lt (L2.small1000 h))]
theorem len_app {i j : Str} : (i ++ j).length = i.length + j.length := by
  show (i.cps ++ j.cps).size = _
  rw [Array.size_append]
  rfl
theorem rng_int {n : Int} (h0 : 0 ≤ n) (h1 : n ≤ 1000) : rng1R (.int n) = R.ret (rangeL 0 n.toNat) := by
  have := rng_nat (n := n.toNat) (Nat.lt_of_le_of_lt (show n.toNat ≤ 1000 by omega) (by decide))
  rw [Int.toNat_of_nonneg h0] at this
  exact this
theorem join_strs {a : Str} {zs : List Str} (h : (zs.map (·.length)).sum + zs.length * a.length ≤ 1000) : joinR a (.list (zs.map PyData.str)) = R.ret (.str (Txt.join a zs)) := by
  simp only [joinR, strs_all, joinL]
  rw [if_pos (Nat.le_trans h (by decide))]
theorem join_len (a : Str) (zs : List Str) : (Txt.join a zs).length ≤ (zs.map (·.length)).sum + zs.length * a.length := by
  rw [TL.join_eq]
  induction zs with
  | nil => exact Nat.zero_le _
  | cons x r ih =>
    cases r with
    | nil => show x.length ≤ _; simp
    | cons y r =>
      have e : (Str.join a (x :: y :: r)).length = x.length + a.length + (Str.join a (y :: r)).length := by
        show (x.cps ++ a.cps ++ (Str.join a (y :: r)).cps).size = _
        rw [Array.size_append, Array.size_append]
        rfl
      rw [e]
      simp only [List.map_cons, List.sum_cons, List.length_cons, Nat.add_mul, Nat.one_mul] at ih ⊢
      omega
theorem sum_ones {zs : List Str} {b : Nat} (h : ∀ z ∈ zs, z.length ≤ b) : (zs.map (·.length)).sum ≤ zs.length * b := by
  induction zs with
  | nil => simp
  | cons z zs ih =>
    have h1 := h z List.mem_cons_self
    have h2 := ih fun x hx => h x (List.mem_cons_of_mem _ hx)
    simp only [List.map_cons, List.sum_cons, List.length_cons, Nat.add_mul, Nat.one_mul]
    omega
theorem seq_bind {α S S' B T : Type} {t : R α} {g : α → R (Out S B T)} {k : S → R (Out S' B T)} : (t.bind fun b => seqR (g b) k) = seqR (t.bind g) k := (R.bind_assoc t g _).symm
theorem eq_bool {a b : Bool} : eqR (.bool a) (.bool b) = R.ret (.bool (a == b)) := by
  unfold eqR
  rw [if_pos ⟨by unfold SeqAt.shaped; rfl, by unfold SeqAt.shaped; rfl⟩]
  unfold PyData.eqv
  rfl
theorem ne_bool {a b : Bool} : neR (.bool a) (.bool b) = R.ret (.bool (!(a == b))) := by
  unfold neR
  rw [if_pos ⟨by unfold SeqAt.shaped; rfl, by unfold SeqAt.shaped; rfl⟩]
  unfold PyData.eqv
  rfl
theorem isi_bool {a : Bool} : isiR "bool" (.bool a) = R.ret (.bool true) := Eq.trans rfl rfl
theorem is_true {a : Bool} : isR (.bool a) (.bool true) = R.ret (.bool a) := by
  show R.ret (PyData.bool (decide (a = true))) = _
  cases a <;> rfl
/-! ### rows of moves -/
def natL (ms : List Nat) : List D := ms.map fun m : Nat => PyData.int (m : Int)
theorem natL_length {ms : List Nat} : (natL ms).length = ms.length := by unfold natL; rw [List.length_map]
theorem natL_get {ms : List Nat} {i m : Nat} (h : ms[i]? = some m) : (natL ms)[i]? = some (.int (m : Int)) := by unfold natL; rw [List.getElem?_map, h]; rfl
theorem natL_append {a b : List Nat} : natL (a ++ b) = natL a ++ natL b := by unfold natL; rw [List.map_append]
theorem natL_rep {a : List Nat} : ∀ c : Nat, natL (List.replicate c a).flatten = (List.replicate c (natL a)).flatten
  | 0 => rfl
  | c + 1 => by rw [List.replicate_succ, List.flatten_cons, natL_append, natL_rep c, List.replicate_succ, List.flatten_cons]
/-- one place of a stock changed by slices -/
theorem cut_take (xs : List D) (n : Nat) : cutD xs none (some (n : Int)) = xs.take n := by
  unfold cutD
  rw [HT.sIx_none, HT.sIx_nat, List.drop_zero, Nat.sub_zero]
  by_cases h : n ≤ xs.length
  · rw [Nat.min_eq_left h]
  · rw [Nat.min_eq_right (by omega), List.take_length, List.take_of_length_le (by omega)]
theorem cut_drop (xs : List D) (n : Nat) : cutD xs (some (n : Int)) none = xs.drop n := by
  unfold cutD
  rw [HT.sIx_none, HT.sIx_nat]
  by_cases h : n ≤ xs.length
  · rw [Nat.min_eq_left h]
    exact List.take_of_length_le (by rw [List.length_drop]; exact Nat.le_refl _)
  · rw [Nat.min_eq_right (by omega), List.drop_length, List.drop_eq_nil_of_le (by omega), List.take_nil]
theorem vec_but {n k : Nat} {f : Nat → Int} {x : Int} (hk : k < n) : (vecL n f).take k ++ [PyData.int x] ++ (vecL n f).drop (k + 1) = vecL n fun i => if i = k then x else f i := by
  apply List.ext_getElem?
  intro i
  have hl : ((vecL n f).take k).length = k := by rw [List.length_take, vecL_length]; omega
  by_cases h1 : i < k
  · rw [List.append_assoc, List.getElem?_append_left (by omega), List.getElem?_take, if_pos h1, vecL_get (by omega), vecL_get (by omega), if_neg (by omega)]
  · by_cases h2 : i = k
    · subst h2
      rw [List.append_assoc, List.getElem?_append_right (by omega), hl, Nat.sub_self, vecL_get hk, if_pos rfl]
      rfl
    · rw [List.getElem?_append_right (by rw [List.length_append, hl]; simp only [List.length_cons, List.length_nil]; omega), List.length_append, hl]
      simp only [List.length_cons, List.length_nil]
      rw [List.getElem?_drop, show k + 1 + (i - (k + (0 + 1))) = i by omega]
      by_cases h3 : i < n
      · rw [vecL_get h3, vecL_get h3, if_neg h2]
      · rw [List.getElem?_eq_none (by rw [vecL_length]; omega), List.getElem?_eq_none (by rw [vecL_length]; omega)]
/-- the items that pass -/
theorem comp_filter {α β : Type} {c : α → R Bool} {f : α → R β} {p : α → Bool} {g : α → β} : ∀ {ds : List α} {acc : List β}, (∀ d ∈ ds, c d = R.ret (p d)) → (∀ d ∈ ds, p d = true → f d = R.ret (g d)) → acc.length + ds.length ≤ sizeLine → compR c f ds acc = R.ret (acc ++ (ds.filter p).map g)
  | [], acc, _, _, _ => by unfold compR; simp
  | d :: ds, acc, hc, hf, hl => by
    unfold compR
    rw [List.length_cons] at hl
    rw [hc d List.mem_cons_self]
    simp only [nx_ret, rb]
    cases e : p d with
    | true =>
      rw [if_pos rfl, hf d List.mem_cons_self e]
      simp only [nx_ret, rb]
      rw [if_pos (by omega), comp_filter (fun d hd => hc d (List.mem_cons_of_mem _ hd)) (fun d hd => hf d (List.mem_cons_of_mem _ hd)) (by rw [List.length_append]; simp only [List.length_cons, List.length_nil]; omega), List.filter_cons, e]
      simp
    | false =>
      rw [if_neg (by decide), comp_filter (fun d hd => hc d (List.mem_cons_of_mem _ hd)) (fun d hd => hf d (List.mem_cons_of_mem _ hd)) (by omega), List.filter_cons, e]
      simp
theorem add_tup {xs ys : List D} (h1 : xs.length ≤ 100000) (h2 : ys.length ≤ 100000) : addR (.tuple xs) (.tuple ys) = R.ret (.tuple (xs ++ ys)) := by
  have hz : xs.length + ys.length ≤ sizeLine := Nat.le_trans (show xs.length + ys.length ≤ 200000 by omega) (by show 200000 ≤ 2 ^ 24; decide)
  simp only [addR, hz, if_true]
theorem slice_to {xs : List D} {k : Nat} : sliceR (.tuple xs) none (some (k : Int)) = R.ret (.tuple (xs.take k)) := by
  show R.ret (PyData.tuple (cutD xs none (some (k : Int)))) = _
  rw [cut_take]
theorem slice_from {xs : List D} {k : Nat} : sliceR (.tuple xs) (some (k : Int)) none = R.ret (.tuple (xs.drop k)) := by
  show R.ret (PyData.tuple (cutD xs (some (k : Int)) none)) = _
  rw [cut_drop]
theorem pow_nat {i : Int} {k : Nat} (h : i.natAbs < 2 ^ 64) (hk : k ≤ 1000) : powR (.int i) (.int (k : Int)) = R.ret (.int (i ^ k)) := by
  have hc : (0 : Int) ≤ (k : Int) ∧ (k : Int) ≤ 1000000 ∧ i.natAbs < 2 ^ 64 := ⟨by omega, by omega, h⟩
  simp only [powR, hc, and_self, if_true, Int.toNat_natCast]
/-- items that come to just so much -/
theorem comp_range_eq {f : D → R D} {n : Nat} {g : Nat → D} (hn : n ≤ sizeLine) (h : ∀ k : Nat, k < n → Ok (f (.int (k : Int))) fun y => y = g k) : Ok (compR (fun _ => R.ret true) f (rangeL 0 n) []) fun ys => ys = (List.range n).map g := by
  refine comp_ok (P := fun d y => ∃ k : Nat, d = .int (k : Int) ∧ y = g k) (acc := []) (fun d hd => ?_) (by rw [rangeL_length]; simpa using hn) fun ys hl hp => ?_
  · unfold rangeL at hd
    obtain ⟨k, hk, rfl⟩ := List.mem_map.mp hd
    rw [Int.zero_add]
    exact ok_mono (h k (List.mem_range.mp hk)) fun y e => ⟨k, rfl, e⟩
  · rw [List.nil_append]
    rw [rangeL_length] at hl
    apply List.ext_getElem?
    intro i
    by_cases hi : i < n
    · obtain ⟨k, e1, e2⟩ := hp i (.int (i : Int)) (ys[i]'(by omega)) (by unfold rangeL; rw [List.getElem?_map, List.getElem?_range hi, Option.map_some, Int.zero_add]) (List.getElem?_eq_getElem (by omega))
      have hk : k = i := by injection e1 with e1; omega
      subst hk
      rw [List.getElem?_eq_getElem (by omega), e2, List.getElem?_map, List.getElem?_range hi]
      rfl
    · rw [List.getElem?_eq_none (by omega), List.getElem?_eq_none (by rw [List.length_map, List.length_range]; omega)]
end Pu
/-! Pr: books and runs, no program in sight. -/
namespace Pu
open PySem R
theorem small1000' {n : Nat} (h : n ≤ 1000) : n < sizeLine := L2.small1000 h
/-- a book by places -/
structure Bk where
  n : Nat
  mm : Nat
  names : List D
  nm : Nat → Str
  tk : Nat → Nat → Int
  lo : Nat → Nat → Int
  hi : Nat → Nat → Int
namespace Bk
variable (b : Bk)
def move (i : Nat) : D := .tuple [.str (b.nm i), vec b.n (b.tk i), vec b.n (b.lo i), vec b.n (b.hi i)]
def moves : List D := (List.range b.mm).map b.move
def d : D := .tuple [.tuple b.names, .tuple b.moves]
def gain (i k : Nat) : Int := b.hi i k - b.tk i k
structure Fine (most : Int) : Prop where
  n1 : 1 ≤ b.n
  n2 : b.n ≤ 20
  m2 : b.mm ≤ 100
  nl : b.names.length = b.n
  tk0 : ∀ i k, 0 ≤ b.tk i k
  tk1 : ∀ i k, b.tk i k ≤ most
  lo0 : ∀ i k, 0 ≤ b.lo i k
  hi0 : ∀ i k, b.lo i k ≤ b.hi i k
  hi1 : ∀ i k, b.hi i k ≤ most
theorem moves_length : b.moves.length = b.mm := by unfold moves; rw [List.length_map, List.length_range]
theorem moves_get {i : Nat} (h : i < b.mm) : b.moves[i]? = some (b.move i) := by unfold moves; rw [List.getElem?_map, List.getElem?_range h]; rfl
/-- what a row of moves needs and changes -/
def need : List Nat → Nat → Int
  | [], _ => 0
  | m :: ms, k => max (b.tk m k) (need ms k - b.gain m k)
def chg : List Nat → Nat → Int
  | [], _ => 0
  | m :: ms, k => b.gain m k + chg ms k
theorem chg_append (xs ys : List Nat) (k : Nat) : b.chg (xs ++ ys) k = b.chg xs k + b.chg ys k := by
  induction xs with
  | nil => simp [chg]
  | cons m xs ih => rw [List.cons_append, chg, chg, ih]; omega
variable {b}
theorem need_nn (h : ∀ i k, 0 ≤ b.tk i k) : ∀ (ms : List Nat) (k : Nat), 0 ≤ b.need ms k
  | [], _ => Int.le_refl 0
  | m :: ms, k => by rw [need]; have := h m k; omega
theorem need_append (h : ∀ i k, 0 ≤ b.tk i k) : ∀ (xs ys : List Nat) (k : Nat), b.need (xs ++ ys) k = max (b.need xs k) (b.need ys k - b.chg xs k)
  | [], ys, k => by
    have := need_nn h ys k
    rw [List.nil_append, need, chg]
    omega
  | m :: xs, ys, k => by
    rw [List.cons_append, need, need, chg, need_append h xs ys k]
    omega
theorem chg_rep (ms : List Nat) (k : Nat) : ∀ c : Nat, b.chg (List.replicate c ms).flatten k = c * b.chg ms k
  | 0 => by simp [chg]
  | c + 1 => by
    rw [List.replicate_succ, List.flatten_cons, chg_append, chg_rep ms k c]
    rw [Int.natCast_add, Int.add_mul]
    simp only [Int.cast_ofNat_Int, Int.one_mul]
    omega
theorem need_rep (h : ∀ i k, 0 ≤ b.tk i k) (ms : List Nat) (k : Nat) : ∀ c : Nat, b.need (List.replicate (c + 1) ms).flatten k = max (b.need ms k) (b.need ms k - c * b.chg ms k)
  | 0 => by
    simp only [List.replicate_succ, List.replicate_zero, List.flatten_cons, List.flatten_nil, List.append_nil]
    rw [Int.natCast_zero, Int.zero_mul]
    omega
  | c + 1 => by
    rw [List.replicate_succ, List.flatten_cons, need_append h, need_rep h ms k c]
    have e : ((c + 1 : Nat) : Int) * b.chg ms k = c * b.chg ms k + b.chg ms k := by
      rw [Int.natCast_add, Int.add_mul]
      simp
    rw [e]
    by_cases hs : 0 ≤ b.chg ms k
    · have : 0 ≤ (c : Int) * b.chg ms k := Int.mul_nonneg (by omega) hs
      omega
    · have : (c : Int) * b.chg ms k ≤ 0 := Int.mul_nonpos_of_nonneg_of_nonpos (by omega) (by omega)
      omega
/-- step by step -/
theorem need_le {most : Int} (h : b.Fine most) (k : Nat) : ∀ (ms : List Nat) (x : Int), 0 ≤ x → (b.need ms k ≤ x ↔ ∀ i m, ms[i]? = some m → b.tk m k ≤ x + b.chg (ms.take i) k)
  | [], x, hx => by simp [need, hx]
  | m :: ms, x, hx => by
    rw [need]
    have ih : 0 ≤ x + b.gain m k → _ := need_le h k ms (x + b.gain m k)
    constructor
    · intro hh i m' e
      have h1 : b.tk m k ≤ x := by omega
      have h2 : b.need ms k ≤ x + b.gain m k := by omega
      cases i with
      | zero =>
        simp at e
        subst e
        simp [chg]
        exact h1
      | succ i =>
        have hg : 0 ≤ x + b.gain m k := by
          have := h.lo0 m k
          have := h.hi0 m k
          unfold gain
          omega
        have := (ih hg).mp h2 i m' (by simpa using e)
        rw [List.take_succ_cons, chg]
        omega
    · intro hh
      have h1 : b.tk m k ≤ x := by
        have := hh 0 m rfl
        simp [chg] at this
        exact this
      have hg : 0 ≤ x + b.gain m k := by
        have := h.lo0 m k
        have := h.hi0 m k
        unfold gain
        omega
      have h2 := (ih hg).mpr fun i m' e => by
        have := hh (i + 1) m' (by simpa using e)
        rw [List.take_succ_cons, chg] at this
        omega
      omega
theorem chg_take_succ {ms : List Nat} {i m : Nat} (h : ms[i]? = some m) (k : Nat) : b.chg (ms.take (i + 1)) k = b.chg (ms.take i) k + b.gain m k := by
  rw [List.take_add_one, h, chg_append]
  simp [chg]
end Bk
/-- a run's steps, how deep, and the moves that they are; cm: the greatest count -/
inductive RunD (mm : Nat) (cm : Int) : Nat → List D → List Nat → Prop where
  | nil {k : Nat} : RunD mm cm k [] []
  | one {k m : Nat} {ds : List D} {ms : List Nat} : m < mm → RunD mm cm k ds ms → RunD mm cm k (.tuple [.str "do", .int m] :: ds) (m :: ms)
  | rep {k c : Nat} {es ds : List D} {ns ms : List Nat} : (c : Int) + 1 ≤ cm → es ≠ [] ∧ es.length ≤ 1000 → RunD mm cm k es ns → RunD mm cm (k + 1) ds ms → RunD mm cm (k + 1) (.tuple [.str "rep", .int ((c + 1 : Nat) : Int), .tuple es] :: ds) ((List.replicate (c + 1) ns).flatten ++ ms)
theorem RunD.lt {mm : Nat} {cm : Int} {k : Nat} {ds : List D} {ms : List Nat} (h : RunD mm cm k ds ms) : ∀ m ∈ ms, m < mm := by
  induction h with
  | nil => simp
  | one h _ ih =>
    intro m hm
    rcases List.mem_cons.mp hm with rfl | hm
    · exact h
    · exact ih m hm
  | rep _ _ _ _ ih1 ih2 =>
    intro m hm
    rcases List.mem_append.mp hm with hm | hm
    · obtain ⟨l, hl, hm⟩ := List.mem_flatten.mp hm
      rw [List.mem_replicate] at hl
      rw [hl.2] at hm
      exact ih1 m hm
    · exact ih2 m hm
theorem RunD.up {mm : Nat} {cm : Int} {k : Nat} {ds : List D} {ms : List Nat} (h : RunD mm cm k ds ms) : RunD mm cm (k + 1) ds ms := by
  induction h with
  | nil => exact .nil
  | one h _ ih => exact .one h ih
  | rep h n _ _ ih1 ih2 => exact .rep h n ih1 ih2
theorem RunD.snoc1 {mm : Nat} {cm : Int} {k : Nat} {ds : List D} {ms : List Nat} (h : RunD mm cm k ds ms) {m : Nat} (hm : m < mm) : RunD mm cm k (ds ++ [.tuple [.str "do", .int m]]) (ms ++ [m]) := by
  induction h with
  | nil => exact .one hm .nil
  | one h _ ih => exact .one h ih
  | rep h n h1 _ ih1 ih2 => rw [List.cons_append, List.append_assoc]; exact .rep h n h1 ih2
theorem RunD.snocr {mm : Nat} {cm : Int} {k : Nat} {ds : List D} {ms : List Nat} (h : RunD mm cm (k + 1) ds ms) {c : Nat} {es : List D} {ns : List Nat} (hc : (c : Int) + 1 ≤ cm) (he : es ≠ [] ∧ es.length ≤ 1000) (hr : RunD mm cm k es ns) :
    RunD mm cm (k + 1) (ds ++ [.tuple [.str "rep", .int ((c + 1 : Nat) : Int), .tuple es]]) (ms ++ (List.replicate (c + 1) ns).flatten) := by
  generalize hk : k + 1 = k1 at h
  induction h with
  | nil => subst hk; have := RunD.rep hc he hr (RunD.nil (mm := mm) (cm := cm)); rw [List.append_nil] at this; exact this
  | one h _ ih => exact .one h (ih hk)
  | rep h n h1 _ ih1 ih2 =>
    rw [List.cons_append, List.append_assoc]
    exact .rep h n h1 (ih2 hk)
theorem RunD.pl {mm : Nat} {cm : Int} {k : Nat} {ds : List D} {ms : List Nat} (h : RunD mm cm k ds ms) : Pl (2 * k + 2) (.tuple ds) := by
  have key : ∀ x ∈ ds, Pl (2 * k + 1) x := by
    induction h with
    | nil => simp
    | @one k m ds ms _ _ ih =>
      intro x hx
      rcases List.mem_cons.mp hx with rfl | hx
      · show ∀ y ∈ ([PyData.str "do", PyData.int m] : List D), Pl (2 * k) y
        intro y hy
        simp only [List.mem_cons, List.not_mem_nil, or_false] at hy
        rcases hy with rfl | rfl
        · unfold Pl; decide +kernel
        · exact pl_int
      · exact ih x hx
    | @rep k c es ds ns ms _ _ h1 _ ih1 ih2 =>
      intro x hx
      rcases List.mem_cons.mp hx with rfl | hx
      · show ∀ y ∈ ([PyData.str "rep", PyData.int ((c + 1 : Nat) : Int), PyData.tuple es] : List D), Pl (2 * k + 2) y
        intro y hy
        simp only [List.mem_cons, List.not_mem_nil, or_false] at hy
        rcases hy with rfl | rfl | rfl
        · unfold Pl; decide +kernel
        · exact pl_int
        · unfold Pl; exact ih1
      · exact ih2 x hx
  unfold Pl
  exact key
/-- need by plays -/
theorem Bk.need_all {b : Bk} {most : Int} (h : b.Fine most) {ms : List Nat} {s : Nat → Int} (hs : ∀ k, k < b.n → 0 ≤ s k) {cnt : Nat} (hc : cnt ≤ ms.length) (h1 : ∀ i, i < cnt → ∀ m, ms[i]? = some m → ∀ k, k < b.n → b.tk m k ≤ s k + b.chg (ms.take i) k)
    (h2 : cnt < ms.length → ∃ m k, ms[cnt]? = some m ∧ k < b.n ∧ s k + b.chg (ms.take cnt) k < b.tk m k) : cnt = ms.length ↔ ∀ k, k < b.n → b.need ms k ≤ s k := by
  constructor
  · rintro rfl k hk
    refine (need_le h k ms (s k) (hs k hk)).mpr fun i m e => ?_
    have hi : i < ms.length := by
      by_cases hi : i < ms.length
      · exact hi
      · rw [List.getElem?_eq_none (by omega)] at e; cases e
    exact h1 i hi m e k hk
  · intro hn
    by_cases hlt : cnt < ms.length
    · obtain ⟨m, k, e, hk, hlt2⟩ := h2 hlt
      have := (need_le h k ms (s k) (hs k hk)).mp (hn k hk) cnt m e
      omega
    · omega
end Pu
/-! Pq: where a row of moves stops. -/
namespace Pu
open PySem R
namespace Bk
variable (b : Bk)
/-- the stock lets the move -/
def Lets (s : Nat → Int) (m : Nat) : Prop := ∀ k, k < b.n → b.tk m k ≤ s k
instance (s : Nat → Int) (m : Nat) : Decidable (b.Lets s m) := by unfold Lets; exact inferInstance
def stop : (Nat → Int) → List Nat → Option Nat
  | _, [] => none
  | s, m :: ms => if b.Lets s m then (stop (fun k => s k + b.gain m k) ms).map (· + 1) else some 0
variable {b}
theorem stop_cons {s : Nat → Int} {m : Nat} {ms : List Nat} : b.stop s (m :: ms) = if b.Lets s m then (b.stop (fun k => s k + b.gain m k) ms).map (· + 1) else some 0 := rfl
theorem stop_congr : ∀ (ms : List Nat) {s t : Nat → Int}, (∀ k, k < b.n → s k = t k) → b.stop s ms = b.stop t ms
  | [], _, _, _ => rfl
  | m :: ms, s, t, h => by
    have e : b.Lets s m ↔ b.Lets t m := ⟨fun z k hk => by rw [← h k hk]; exact z k hk, fun z k hk => by rw [h k hk]; exact z k hk⟩
    unfold stop
    rw [stop_congr ms (s := fun k => s k + b.gain m k) (t := fun k => t k + b.gain m k) fun k hk => by show s k + _ = t k + _; rw [h k hk]]
    by_cases z : b.Lets s m
    · rw [if_pos z, if_pos (e.mp z)]
    · rw [if_neg z, if_neg fun y => z (e.mpr y)]
theorem stop_append : ∀ (xs ys : List Nat) (s : Nat → Int), b.stop s (xs ++ ys) = match b.stop s xs with
    | some i => some i
    | none => (b.stop (fun k => s k + b.chg xs k) ys).map (· + xs.length)
  | [], ys, s => by
    show b.stop s ys = (b.stop (fun k => s k + b.chg [] k) ys).map (· + 0)
    rw [stop_congr ys (s := fun k => s k + b.chg [] k) (t := s) fun k _ => by simp [chg]]
    cases b.stop s ys <;> rfl
  | m :: xs, ys, s => by
    rw [List.cons_append, stop_cons, stop_cons]
    by_cases z : b.Lets s m
    · rw [if_pos z, if_pos z, stop_append xs ys]
      cases e : b.stop (fun k => s k + b.gain m k) xs with
      | some i => rfl
      | none =>
        show Option.map _ (Option.map _ _) = Option.map _ _
        rw [Option.map_map, stop_congr ys (s := fun k => s k + b.gain m k + b.chg xs k) (t := fun k => s k + b.chg (m :: xs) k) fun k _ => by rw [chg]; omega]
        congr 1
    · rw [if_neg z, if_neg z]
/-- a row can be played just where the stock covers its need -/
theorem stop_none {most : Int} (h : b.Fine most) : ∀ (ms : List Nat) (s : Nat → Int), (∀ k, k < b.n → 0 ≤ s k) → (b.stop s ms = none ↔ ∀ k, k < b.n → b.need ms k ≤ s k)
  | [], s, hs => by simp only [stop, need, true_iff]; exact hs
  | m :: ms, s, hs => by
    unfold stop
    by_cases z : b.Lets s m
    · rw [if_pos z, Option.map_eq_none_iff, stop_none h ms _ fun k hk => by
        have h1 := z k hk
        have h2 := h.lo0 m k
        have h3 := h.hi0 m k
        unfold gain
        omega]
      constructor
      · intro y k hk
        have h1 := z k hk
        have h2 := y k hk
        rw [need]
        omega
      · intro y k hk
        have h2 := y k hk
        rw [need] at h2
        omega
    · rw [if_neg z]
      constructor
      · intro y; cases y
      · intro y
        exact absurd (fun k hk => by have h2 := y k hk; rw [need] at h2; omega) z
theorem stop_lt : ∀ (ms : List Nat) (s : Nat → Int) (i : Nat), b.stop s ms = some i → i < ms.length
  | [], _, _, h => by cases h
  | m :: ms, s, i, h => by
    unfold stop at h
    by_cases z : b.Lets s m
    · rw [if_pos z] at h
      obtain ⟨j, hj, rfl⟩ := Option.map_eq_some_iff.mp h
      have := stop_lt ms _ j hj
      rw [List.length_cons]; omega
    · rw [if_neg z] at h
      cases h
      rw [List.length_cons]; omega
/-- the stop by places -/
theorem stop_at : ∀ (ms : List Nat) (s : Nat → Int) (cnt : Nat), cnt ≤ ms.length → (∀ i, i < cnt → ∀ m, ms[i]? = some m → ∀ k, k < b.n → b.tk m k ≤ s k + b.chg (ms.take i) k) →
    (cnt < ms.length → ∃ m k, ms[cnt]? = some m ∧ k < b.n ∧ s k + b.chg (ms.take cnt) k < b.tk m k) → b.stop s ms = if cnt = ms.length then none else some cnt
  | [], s, cnt, h, _, _ => by
    have : cnt = 0 := Nat.le_zero.mp h
    subst this
    rfl
  | m :: ms, s, 0, _, _, h2 => by
    obtain ⟨m', k, e, hk, hlt⟩ := h2 (by rw [List.length_cons]; omega)
    cases e
    rw [if_neg (by rw [List.length_cons]; omega)]
    unfold stop
    rw [if_neg fun z => by
      have := z k hk
      simp [chg] at hlt
      omega]
  | m :: ms, s, cnt + 1, hl, h1, h2 => by
    rw [List.length_cons] at hl h2
    have hm : b.Lets s m := fun k hk => by
      have := h1 0 (Nat.succ_pos _) m rfl k hk
      simp [chg] at this
      exact this
    unfold stop
    rw [if_pos hm, stop_at ms (fun k => s k + b.gain m k) cnt (by omega) (fun i hi m' e k hk => by
        have := h1 (i + 1) (by omega) m' (by simpa using e) k hk
        rw [List.take_succ_cons, chg] at this
        omega) fun hc => by
        obtain ⟨m', k, e, hk, hlt⟩ := h2 (by omega)
        refine ⟨m', k, by simpa using e, hk, ?_⟩
        rw [List.take_succ_cons, chg] at hlt
        omega]
    by_cases hc : cnt = ms.length
    · rw [if_pos hc, if_pos (by rw [List.length_cons]; omega)]; rfl
    · rw [if_neg hc, if_neg (by rw [List.length_cons]; omega)]; rfl
/-- rounds of a row -/
theorem stop_rounds {most : Int} (h : b.Fine most) {ns : List Nat} : ∀ (q : Nat) (t : Nat → Int), (∀ k, k < b.n → 0 ≤ t k) → (∀ i : Nat, i < q → ∀ k, k < b.n → b.need ns k ≤ t k + i * b.chg ns k) → b.stop t (List.replicate q ns).flatten = none
  | 0, _, _, _ => rfl
  | q + 1, t, ht, hq => by
    rw [List.replicate_succ, List.flatten_cons, stop_append]
    have h0 : b.stop t ns = none := (stop_none h ns t ht).mpr fun k hk => by
      have := hq 0 (Nat.succ_pos _) k hk
      simp at this
      exact this
    rw [h0]
    show Option.map _ _ = none
    rw [stop_rounds h q (fun k => t k + b.chg ns k) (fun k hk => ?_) fun i hi k hk => ?_]
    · rfl
    · have h1 := hq 0 (Nat.succ_pos _) k hk
      have h2 := need_chg h ns k
      simp at h1
      omega
    · have := hq (i + 1) (by omega) k hk
      rw [Int.natCast_add, Int.add_mul] at this
      simp only [Int.cast_ofNat_Int, Int.one_mul] at this
      omega
where
  need_chg {most : Int} (h : b.Fine most) : ∀ (ms : List Nat) (k : Nat), 0 ≤ b.need ms k + b.chg ms k
    | [], k => by simp [need, chg]
    | m :: ms, k => by
      have ih := need_chg h ms k
      rw [need, chg]
      have h2 := h.lo0 m k
      have h3 := h.hi0 m k
      unfold gain
      omega
theorem chg_size {most : Int} (h : b.Fine most) (h0 : 0 ≤ most) : ∀ (ms : List Nat) (k : Nat), -(most * ms.length) ≤ b.chg ms k ∧ b.chg ms k ≤ most * ms.length
  | [], k => by simp [chg]
  | m :: ms, k => by
    have ih := chg_size h h0 ms k
    have h1 := h.tk0 m k
    have h2 := h.tk1 m k
    have h3 := h.lo0 m k
    have h4 := h.hi0 m k
    have h5 := h.hi1 m k
    rw [chg, List.length_cons, Int.natCast_add, Int.mul_add]
    simp only [Int.cast_ofNat_Int, Int.mul_one]
    unfold gain
    omega
end Bk
/-- a run whose outermost counts may be great -/
inductive RunT (mm : Nat) (cm : Int) : Nat → List D → List Nat → Prop where
  | nil {k : Nat} : RunT mm cm k [] []
  | one {k m : Nat} {ds : List D} {ms : List Nat} : m < mm → RunT mm cm k ds ms → RunT mm cm k (.tuple [.str "do", .int m] :: ds) (m :: ms)
  | rep {k c : Nat} {es ds : List D} {ns ms : List Nat} : ((c : Int) + 1 < 2 ^ 64 ∨ ns.length ≤ 1000000) → ns.length < 2 ^ 150 → es ≠ [] ∧ es.length ≤ 1000 → RunD mm cm k es ns → RunT mm cm (k + 1) ds ms →
    RunT mm cm (k + 1) (.tuple [.str "rep", .int ((c + 1 : Nat) : Int), .tuple es] :: ds) ((List.replicate (c + 1) ns).flatten ++ ms)
theorem RunD.toT {mm : Nat} {cm : Int} {k : Nat} {ds : List D} {ms : List Nat} (h : RunD mm cm k ds ms) (hc : cm < 2 ^ 64) (hl : ms.length < 2 ^ 150) : RunT mm cm k ds ms := by
  induction h with
  | nil => exact .nil
  | one h _ ih => exact .one h (ih (by rw [List.length_cons] at hl; omega))
  | @rep k c es ds ns ms h1 h2 h3 _ _ ih =>
    rw [List.length_append, List.length_flatten, List.map_replicate, List.sum_replicate_nat] at hl
    have hn : ns.length ≤ (c + 1) * ns.length := Nat.le_mul_of_pos_left _ (Nat.succ_pos c)
    exact .rep (.inl (by omega)) (by omega) h2 h3 (ih (by omega))
/-- a run at a place -/
theorem RunD.at {mm : Nat} {cm : Int} : ∀ {k : Nat} {ds : List D} {ms : List Nat} {i : Nat} {d : D}, RunD mm cm k ds ms → ds[i]? = some d →
    ∃ (m1 m2 : List Nat), RunD mm cm k (ds.take i) m1 ∧ RunD mm cm k (ds.drop (i + 1)) m2 ∧
      ((∃ m, m < mm ∧ d = .tuple [.str "do", .int (m : Int)] ∧ ms = m1 ++ (m :: m2)) ∨
       ∃ (k' c : Nat) (es : List D) (ns : List Nat), k = k' + 1 ∧ (c : Int) + 1 ≤ cm ∧ (es ≠ [] ∧ es.length ≤ 1000) ∧ RunD mm cm k' es ns ∧ d = .tuple [.str "rep", .int ((c + 1 : Nat) : Int), .tuple es] ∧ ms = m1 ++ ((List.replicate (c + 1) ns).flatten ++ m2)) := by
  intro k ds ms i d h
  induction h generalizing i with
  | nil => intro e; simp at e
  | @one k m ds ms hm hr ih =>
    intro e
    cases i with
    | zero => simp at e; subst e; exact ⟨[], ms, .nil, hr, .inl ⟨m, hm, rfl, rfl⟩⟩
    | succ i =>
      obtain ⟨m1, m2, h1, h2, h3⟩ := ih (by simpa using e)
      refine ⟨m :: m1, m2, .one hm h1, h2, ?_⟩
      rcases h3 with ⟨m', a, b, e⟩ | ⟨k', c, es, ns, a1, a2, a3, a4, a5, a6⟩
      · exact .inl ⟨m', a, b, by rw [e]; rfl⟩
      · exact .inr ⟨k', c, es, ns, a1, a2, a3, a4, a5, by rw [a6]; rfl⟩
  | @rep k c es ds ns ms hc he hr1 hr2 ih1 ih2 =>
    intro e
    cases i with
    | zero => simp at e; subst e; exact ⟨[], ms, .nil, hr2, .inr ⟨k, c, es, ns, rfl, hc, he, hr1, rfl, rfl⟩⟩
    | succ i =>
      obtain ⟨m1, m2, h1, h2, h3⟩ := ih2 (by simpa using e)
      refine ⟨(List.replicate (c + 1) ns).flatten ++ m1, m2, .rep hc he hr1 h1, h2, ?_⟩
      rcases h3 with ⟨m', a, b, e⟩ | ⟨k', c', es', ns', a1, a2, a3, a4, a5, a6⟩
      · exact .inl ⟨m', a, b, by rw [e, List.append_assoc]⟩
      · exact .inr ⟨k', c', es', ns', a1, a2, a3, a4, a5, by rw [a6, List.append_assoc]⟩
theorem RunD.append {mm : Nat} {cm : Int} {k : Nat} {ds es : List D} {ms ns : List Nat} (h : RunD mm cm k ds ms) : RunD mm cm k es ns → RunD mm cm k (ds ++ es) (ms ++ ns) := by
  induction h with
  | nil => exact fun q => q
  | one h _ ih => exact fun q => .one h (ih q)
  | rep h n h1 _ _ ih2 => exact fun q => by rw [List.cons_append, List.append_assoc]; exact .rep h n h1 (ih2 q)
theorem RunT.append {mm : Nat} {cm : Int} {k : Nat} {ds es : List D} {ms ns : List Nat} (h : RunT mm cm k ds ms) : RunT mm cm k es ns → RunT mm cm k (ds ++ es) (ms ++ ns) := by
  induction h with
  | nil => exact fun q => q
  | one h _ ih => exact fun q => .one h (ih q)
  | rep h l n h1 _ ih2 => exact fun q => by rw [List.cons_append, List.append_assoc]; exact .rep h l n h1 (ih2 q)
theorem RunD.more {mm : Nat} {cm cn : Int} (hc : cm ≤ cn) {k : Nat} {ds : List D} {ms : List Nat} (h : RunD mm cm k ds ms) : RunD mm cn k ds ms := by
  induction h with
  | nil => exact .nil
  | one h _ ih => exact .one h ih
  | rep h n _ _ ih1 ih2 => exact .rep (by omega) n ih1 ih2
theorem RunD.pos {mm : Nat} {cm : Int} {k : Nat} {ds : List D} {ms : List Nat} (h : RunD mm cm k ds ms) (hd : ds ≠ []) : ms ≠ [] := by
  induction h with
  | nil => exact absurd rfl hd
  | one => simp
  | rep _ he _ _ ih1 _ =>
    have := ih1 he.1
    intro z
    have z := (List.append_eq_nil_iff.mp z).1
    rw [List.replicate_succ, List.flatten_cons] at z
    exact this (List.append_eq_nil_iff.mp z).1
theorem Bk.stop_some {b : Bk} : ∀ (ms : List Nat) (s : Nat → Int) (i : Nat), b.stop s ms = some i → b.stop s (ms.take i) = none ∧ ∃ m, ms[i]? = some m ∧ ¬ b.Lets (fun k => s k + b.chg (ms.take i) k) m
  | [], _, _, h => by cases h
  | m :: ms, s, i, h => by
    rw [stop_cons] at h
    by_cases z : b.Lets s m
    · rw [if_pos z] at h
      obtain ⟨j, hj, rfl⟩ := Option.map_eq_some_iff.mp h
      obtain ⟨h1, m', h2, h3⟩ := stop_some ms _ j hj
      refine ⟨by rw [List.take_succ_cons, stop_cons, if_pos z, h1]; rfl, m', by simpa using h2, fun y => h3 fun k hk => ?_⟩
      have this : b.tk m' k ≤ s k + b.chg ((m :: ms).take (j + 1)) k := y k hk
      rw [List.take_succ_cons, chg] at this
      show b.tk m' k ≤ s k + b.gain m k + b.chg (ms.take j) k
      omega
    · rw [if_neg z] at h
      cases h
      refine ⟨rfl, m, rfl, fun y => z fun k hk => ?_⟩
      have := y k hk
      simp [chg] at this
      exact this
/-- a repetition with no rounds is none -/
theorem RunD.rep0 {mm : Nat} {cm : Int} {k : Nat} {es : List D} {ns : List Nat} (c : Nat) (hc : (c : Int) ≤ cm) (he : es ≠ [] ∧ es.length ≤ 1000) (h : RunD mm cm k es ns) :
    RunD mm cm (k + 1) (if 0 < c then [.tuple [.str "rep", .int (c : Int), .tuple es]] else []) (List.replicate c ns).flatten := by
  cases c with
  | zero => exact .nil
  | succ c =>
    rw [if_pos (Nat.succ_pos c)]
    have := RunD.rep (c := c) (by omega) he h (RunD.nil (mm := mm) (cm := cm) (k := k + 1))
    rw [List.append_nil] at this
    exact this
end Pu
/-! Pk: constants of the module; small facts. -/
namespace Pu
open PySem PySem.Spec PyProof.Rows L2 R
section
variable {K : PySem.W.Frag} {mg : Str → Option Value} {h : Heap} {x : Str}
theorem con_mk_int (X : K.In h) (G : h.Ns mainGlobals mg) {i : Int} {t : Tok} (a : PySem.W.nsIn K mainGlobals x = some (some (.int i t))) : GCon K mg x (.int i) :=
  ⟨.int i, .int i t, PySem.W.mg_of X G a, ⟨t, rfl⟩, fun _ _ => .int i⟩
theorem con_mk_str (X : K.In h) (G : h.Ns mainGlobals mg) {i : Str} {t : Tok} (a : PySem.W.nsIn K mainGlobals x = some (some (.str i t))) : GCon K mg x (.str i) :=
  ⟨.str i, .str i t, PySem.W.mg_of X G a, ⟨t, rfl⟩, fun _ _ => .str i⟩
end
theorem cat_ok {xs ys : List D} (h : xs.length + ys.length ≤ 100000) : catR (.list xs) (.list ys) = R.ret (xs ++ ys) := by
  have hz : xs.length + ys.length ≤ sizeLine := Nat.le_trans h (by show 100000 ≤ 2 ^ 24; decide)
  simp only [catR, hz, if_true]
theorem addl_ok {xs ys : List D} (h : xs.length + ys.length ≤ 100000) : addR (.list xs) (.list ys) = R.ret (.list (xs ++ ys)) := by
  have hz : xs.length + ys.length ≤ sizeLine := Nat.le_trans h (by show 100000 ≤ 2 ^ 24; decide)
  simp only [addR, hz, if_true]
end Pu
/-! Poe: plain reasoning about results that may be errors. -/
namespace Pu
open PySem R
/-! ### results that may be errors -/
structure OkE {α : Type} (r : R α) (Q : α → Prop) (E : Nat → D → Prop) : Prop where
  w : r.wp Q E
section
variable {α β : Type} {P : α → Prop} {E : Nat → D → Prop}
theorem oke_step {r : R α} {f : α → R β} {Q : β → Prop} (h : OkE r P E) (k : ∀ a, P a → OkE (f a) Q E) : OkE (r.bind f) Q E := ⟨wp_bind.mpr (wp_mono (fun a p => (k a p).w) (fun _ _ z => z) h.w)⟩
theorem oke_mono {r : R α} {Q : α → Prop} (h : OkE r P E) (k : ∀ a, P a → Q a) : OkE r Q E := ⟨wp_mono k (fun _ _ z => z) h.w⟩
theorem oke_ret {a : α} (h : P a) : OkE (R.ret a) P E := ⟨h⟩
theorem oke_exc {c : Nat} {x : D} (h : E c x) : OkE (R.exc c x : R α) P E := ⟨h⟩
theorem oke_nx {r : R α} (h : Ok r P) : OkE (nx r) P E := ⟨nx_ok h⟩
theorem oke_nx_ret {a : α} (h : P a) : OkE (nx (R.ret a)) P E := ⟨h⟩
theorem ok_of {r : R α} (h : OkE r P E) (k : ∀ a c x, E c x → ¬ P a → False) (k2 : ∀ c x, E c x → False) : Ok (nx r) P := ⟨by
  have : r.wp P fun _ _ => False := wp_mono (fun _ z => z) (fun c x z => k2 c x z) h.w
  exact nx_ok ⟨this⟩⟩
end
section
variable {S S' B T : Type} {E : Nat → D → Prop}
theorem oke_seqP {P : S → Prop} {r : R (Out S B T)} {f : S → R (Out S' B T)} {Q : Out S' B T → Prop} (h : OkE r (fun o => match o with
    | .nx s => P s
    | .bk b => Q (.bk b)
    | .ct b => Q (.ct b)
    | .rt d t => Q (.rt d t)) E) (k : ∀ s, P s → OkE (f s) Q E) : OkE (seqR r f) Q E := by
  unfold seqR
  refine oke_step h fun o ho => ?_
  cases o with
  | nx s => exact k s ho
  | bk b => exact oke_ret ho
  | ct b => exact oke_ret ho
  | rt d t => exact oke_ret ho
theorem oke_end {r : R (Out Unit Empty T)} {Q : D → Prop} (h : OkE r (fun o => match o with
    | .nx _ => Q .none
    | .rt d _ => Q d
    | .bk _ => True
    | .ct _ => True) E) : OkE (endR0 r) Q E := by
  unfold endR0
  refine oke_step h fun o ho => ?_
  cases o with
  | nx s => exact oke_ret ho
  | rt d t => exact oke_ret ho
  | bk b => exact b.elim
  | ct b => exact b.elim
theorem oke_up {r : R (Out Empty B T)} {Q : Out S B T → Prop} (h : OkE r (fun o => match o with
    | .nx s => s.elim
    | .bk b => Q (.bk b)
    | .ct b => Q (.ct b)
    | .rt d t => Q (.rt d t)) E) : OkE (up r) Q E := by
  unfold up
  refine oke_step h fun o ho => ?_
  cases o with
  | nx s => exact s.elim
  | bk b => exact oke_ret ho
  | ct b => exact oke_ret ho
  | rt d t => exact oke_ret ho
end
section
variable {α S B T : Type} {E : Nat → D → Prop}
theorem oke_for {f : α → S → R (Out S S T)} {Q : Out S B T → Prop} {Inv : Nat → S → Prop} : ∀ {ds : List α} {s : S} (i : Nat), Inv i s →
    (∀ (j : Nat) (d : α) (s : S), ds[j]? = some d → Inv (i + j) s → OkE (f d s) (fun o => match o with
      | .nx s' => Inv (i + j + 1) s'
      | .ct s' => Inv (i + j + 1) s'
      | .bk s' => Q (.nx s')
      | .rt d t => Q (.rt d t)) E) → (∀ s, Inv (i + ds.length) s → Q (.nx s)) → OkE (forR f ds s) Q E
  | [], s, i, h0, hs, he => ⟨he s h0⟩
  | d :: ds, s, i, h0, hs, he => by
    unfold forR
    refine oke_step (hs 0 d s rfl h0) fun o h => ?_
    have go : ∀ s', Inv (i + 0 + 1) s' → OkE (forR f ds s') Q E := fun s' h => oke_for (i + 1) h (fun j d s e hi => by
      have := hs (j + 1) d s (by simpa using e) (by rw [show i + (j + 1) = i + 1 + j by omega]; exact hi)
      rw [show i + (j + 1) + 1 = i + 1 + j + 1 by omega] at this
      exact this) fun s hi => he s (by rw [List.length_cons, show i + (ds.length + 1) = i + 1 + ds.length by omega]; exact hi)
    cases o with
    | nx s' => exact go s' h
    | ct s' => exact go s' h
    | bk s' => exact ⟨h⟩
    | rt d t => exact ⟨h⟩
theorem oke_for0 {f : α → S → R (Out S S T)} {Q : Out S B T → Prop} {ds : List α} {s : S} (Inv : Nat → S → Prop) (h0 : Inv 0 s)
    (hs : ∀ (j : Nat) (d : α) (s : S), ds[j]? = some d → Inv j s → OkE (f d s) (fun o => match o with
      | .nx s' => Inv (j + 1) s'
      | .ct s' => Inv (j + 1) s'
      | .bk s' => Q (.nx s')
      | .rt d t => Q (.rt d t)) E) (he : ∀ s, Inv ds.length s → Q (.nx s)) : OkE (forR f ds s) Q E :=
  oke_for (Inv := Inv) 0 h0 (fun j d s e hi => by
    rw [Nat.zero_add] at hi ⊢
    exact hs j d s e hi) fun s hi => he s (by rw [Nat.zero_add] at hi; exact hi)
end
end Pu
/-! Pet: try, plainly. -/
namespace Pu
open PySem R
section
variable {α β : Type} {P : α → Prop} {E : Nat → D → Prop}
theorem ok_try {c0 : Nat} {ok : D → R β} {h : D → R β} {Q : β → Prop} {r : R D} {P : D → Prop} (hr : OkE r P E) (h1 : ∀ d, P d → Ok (ok d) Q) (h2 : ∀ c x, E c x → c = c0 ∧ Ok (h x) Q) : Ok (tryR c0 ok h r) Q := by
  obtain ⟨hr⟩ := hr
  induction r with
  | ret d => exact h1 d hr
  | exc c x =>
    obtain ⟨e, q⟩ := h2 c x hr
    show Ok (if c = c0 then h x else bad) Q
    rw [if_pos e]
    exact q
  | bad => exact hr.elim
  | pick n k ih => exact ⟨fun i a b => (ih i (hr i a b)).w⟩
end
end Pu
/-! What the defs of the text compute. -/
namespace k46
open Pu PySem R
def o_law_entry : R (Out Unit Empty Unit) := R.bind (R.bind (R.bind (R.bind (R.bind (R.ret (.int 0)) fun d => R.bind (R.bind (R.ret (.int 0)) fun d => R.bind (R.bind (R.ret (.int 1)) fun d => R.bind (R.bind (R.ret (.int 2)) fun d => R.bind (R.bind (R.bind (R.ret (.int 20)) fun x => drawB x) fun d => R.bind (R.bind (R.bind (R.ret (.int 1001)) fun x => drawB x) fun d => R.bind (R.bind (R.ret (.int 1000)) fun d => R.bind (R.ret []) fun ds => R.ret (d :: ds)) fun ds => R.ret (d :: ds)) fun ds => R.ret (d :: ds)) fun ds => R.ret (d :: ds)) fun ds => R.ret (d :: ds)) fun ds => R.ret (d :: ds)) fun ds => R.ret (d :: ds)) fun ds => if ds.length ≤ sizeLine then R.ret ds else bad) fun ds => R.ret (.list ds)) fun x => R.bind (R.bind (R.ret (.int 7)) fun x => drawB x) fun y => ixR x y) fun d => R.ret (.rt d ())
def m_law_entry : R D := endR0 (o_law_entry )
def o_law_losing (v_law_many v_law_name : D) : R (Out Unit Empty Unit) := R.bind (R.bind (R.bind (R.ret v_law_many) fun x => rng1R x) fun ds => compR (fun _ => R.ret true) (fun v_law_k => (m_law_entry)) ds []) fun v_law_take => R.bind (R.bind (R.bind (R.ret (.list v_law_take)) fun x => itemsR x) fun ds => compR (fun _ => R.ret true) (fun v_law_entry_here => (R.bind (R.bind (R.bind (R.ret v_law_entry_here) fun x => R.bind (R.ret (.int 0)) fun y => R.bind (R.bind (R.ret v_law_entry_here) fun x => R.bind (R.ret (.int 2)) fun y => fdivR x y) fun z => R.bind (R.bind (R.ret (.int 0)) fun x => R.bind (R.bind (R.ret v_law_entry_here) fun x => R.bind (R.ret (.int 1)) fun y => subR x y) fun y => maxR x y) fun w => R.ret [x, y, z, w]) fun ds => R.ret (.list ds)) fun x => R.bind (R.bind (R.ret (.int 4)) fun x => drawB x) fun y => ixR x y)) ds []) fun v_law_give => R.bind (R.bind (R.ret v_law_name) fun x => R.bind (R.bind (R.ret (.list v_law_take)) fun x => tupleR x) fun y => R.bind (R.bind (R.bind (R.ret (.int 0)) fun x => R.ret (.tuple [x])) fun x => R.bind (R.ret v_law_many) fun y => mulR x y) fun z => R.bind (R.bind (R.ret (.list v_law_give)) fun x => tupleR x) fun w => R.ret (.tuple [x, y, z, w])) fun d => R.ret (.rt d ())
def m_law_losing (v_law_many v_law_name : D) : R D := endR0 (o_law_losing v_law_many v_law_name)
def o_moved (v_label v_amounts : D) : R (Out Unit Empty Unit) := R.bind (R.bind (R.bind (R.bind (R.bind (R.bind (R.ret v_label) fun x => lenR x) fun x => rng1R x) fun ds => compR (fun _ => R.ret true) (fun v_k => (R.bind (R.bind (R.bind (R.ret v_label) fun x => R.bind (R.ret v_k) fun y => ixR x y) fun x => R.bind (R.ret (.int (-1))) fun y => R.bind (eqR x y) boolR) fun x => if x = true then (R.ret (.int (-1))) else (R.bind (R.bind (R.ret v_label) fun x => R.bind (R.ret v_k) fun y => ixR x y) fun x => R.bind (R.bind (R.ret v_amounts) fun x => R.bind (R.ret v_k) fun y => ixR x y) fun y => addR x y))) ds []) fun ds => R.ret (.list ds)) fun x => tupleR x) fun d => R.ret (.rt d ())
def m_moved (v_label v_amounts : D) : R D := endR0 (o_moved v_label v_amounts)
def o_covers (v_stock v_other : D) : R (Out Unit Empty Unit) := R.bind (R.bind (R.bind (R.ret v_stock) fun x => lenR x) fun x => rng1R x) fun ds => seqR (S := Unit) (forR (fun v_k (s1 : Unit) => R.bind (R.bind (R.bind (R.bind (R.ret v_stock) fun x => R.bind (R.ret v_k) fun y => ixR x y) fun x => R.bind (R.bind (R.ret (.int 1)) fun x => negR x) fun y => R.bind (neR x y) boolR) fun x => if x = true then (R.bind (R.bind (R.bind (R.ret v_other) fun x => R.bind (R.ret v_k) fun y => ixR x y) fun x => R.bind (R.bind (R.ret (.int 1)) fun x => negR x) fun y => R.bind (eqR x y) boolR) fun x => if x = true then R.ret true else (R.bind (R.bind (R.ret v_stock) fun x => R.bind (R.ret v_k) fun y => ixR x y) fun x => R.bind (R.bind (R.ret v_other) fun x => R.bind (R.ret v_k) fun y => ixR x y) fun y => R.bind (ltR x y) boolR)) else R.ret false) fun b => if b = true then (R.bind (R.ret (.bool false)) fun d => R.ret (.rt d ())) else (R.ret (.nx ()))) ds ()) fun s1 => R.bind (R.ret (.bool true)) fun d => R.ret (.rt d ())
def m_covers (v_stock v_other : D) : R D := endR0 (o_covers v_stock v_other)
def o_greater (v_stock v_other : D) : R (Out Unit Empty Unit) := R.bind (R.bind (R.bind (R.bind (R.bind (R.bind (R.ret v_stock) fun x => lenR x) fun x => rng1R x) fun ds => compR (fun _ => R.ret true) (fun v_k => (R.bind (R.bind (R.ret v_stock) fun x => R.bind (R.ret v_k) fun y => ixR x y) fun x => R.bind (R.bind (R.ret v_other) fun x => R.bind (R.ret v_k) fun y => ixR x y) fun y => maxR x y)) ds []) fun ds => R.ret (.list ds)) fun x => tupleR x) fun d => R.ret (.rt d ())
def m_greater (v_stock v_other : D) : R D := endR0 (o_greater v_stock v_other)
def o_plus (v_stock v_other : D) : R (Out Unit Empty Unit) := R.bind (R.bind (R.bind (R.bind (R.bind (R.bind (R.ret v_stock) fun x => lenR x) fun x => rng1R x) fun ds => compR (fun _ => R.ret true) (fun v_k => (R.bind (R.bind (R.ret v_stock) fun x => R.bind (R.ret v_k) fun y => ixR x y) fun x => R.bind (R.bind (R.ret v_other) fun x => R.bind (R.ret v_k) fun y => ixR x y) fun y => addR x y)) ds []) fun ds => R.ret (.list ds)) fun x => tupleR x) fun d => R.ret (.rt d ())
def m_plus (v_stock v_other : D) : R D := endR0 (o_plus v_stock v_other)
def o_less (v_stock v_other : D) : R (Out Unit Empty Unit) := R.bind (R.bind (R.bind (R.bind (R.bind (R.bind (R.ret v_stock) fun x => lenR x) fun x => rng1R x) fun ds => compR (fun _ => R.ret true) (fun v_k => (R.bind (R.bind (R.ret v_stock) fun x => R.bind (R.ret v_k) fun y => ixR x y) fun x => R.bind (R.bind (R.ret v_other) fun x => R.bind (R.ret v_k) fun y => ixR x y) fun y => subR x y)) ds []) fun ds => R.ret (.list ds)) fun x => tupleR x) fun d => R.ret (.rt d ())
def m_less (v_stock v_other : D) : R D := endR0 (o_less v_stock v_other)
def o_times (v_count v_stock : D) : R (Out Unit Empty Unit) := R.bind (R.bind (R.bind (R.bind (R.bind (R.ret v_stock) fun x => itemsR x) fun ds => compR (fun _ => R.ret true) (fun v_entry => (R.bind (R.ret v_count) fun x => R.bind (R.ret v_entry) fun y => mulR x y)) ds []) fun ds => R.ret (.list ds)) fun x => tupleR x) fun d => R.ret (.rt d ())
def m_times (v_count v_stock : D) : R D := endR0 (o_times v_count v_stock)
def o_need_and_change (rec : D → D → R D) (v_book v_run : D) : R (Out Unit Empty Unit) := R.bind (R.bind (R.bind (R.ret (.int 0)) fun x => R.ret (.tuple [x])) fun x => R.bind (R.bind (R.bind (R.ret v_book) fun x => R.bind (R.ret (.int 0)) fun y => ixR x y) fun x => lenR x) fun y => mulR x y) fun v_zero => R.bind (R.ret v_zero) fun v_needed => R.bind (R.ret v_zero) fun v_changed => R.bind (R.bind (R.ret v_run) fun x => itemsR x) fun ds => seqR (S := D × D) (forR (fun v_step (s1 : D × D) => R.bind (R.bind (R.bind (R.ret v_step) fun x => R.bind (R.ret (.int 0)) fun y => ixR x y) fun x => R.bind (R.ret (.str "do")) fun y => R.bind (eqR x y) boolR) fun b => seqR (S := D × D) (if b = true then (R.bind (R.bind (R.bind (R.bind (R.ret v_book) fun x => R.bind (R.ret (.int 1)) fun y => ixR x y) fun x => R.bind (R.bind (R.ret v_step) fun x => R.bind (R.ret (.int 1)) fun y => ixR x y) fun y => ixR x y) fun x => R.bind (R.ret (.int 1)) fun y => ixR x y) fun v_take => R.bind (R.ret v_take) fun v_step_need => R.bind (R.bind (R.bind (R.bind (R.bind (R.ret v_book) fun x => R.bind (R.ret (.int 1)) fun y => ixR x y) fun x => R.bind (R.bind (R.ret v_step) fun x => R.bind (R.ret (.int 1)) fun y => ixR x y) fun y => ixR x y) fun x => R.bind (R.ret (.int 3)) fun y => ixR x y) fun x => R.bind (R.ret v_take) fun y => m_less x y) fun v_step_change => R.ret (.nx (v_step_need, v_step_change))) else (R.bind (R.bind (R.ret v_book) fun x => R.bind (R.bind (R.ret v_step) fun x => R.bind (R.ret (.int 2)) fun y => ixR x y) fun y => rec x y) fun d => unp2 d fun v_once v_inner => R.bind (R.bind (R.ret v_once) fun x => R.bind (R.bind (R.ret v_once) fun x => R.bind (R.bind (R.bind (R.bind (R.ret v_step) fun x => R.bind (R.ret (.int 1)) fun y => ixR x y) fun x => R.bind (R.ret (.int 1)) fun y => subR x y) fun x => R.bind (R.ret v_inner) fun y => m_times x y) fun y => m_less x y) fun y => m_greater x y) fun v_step_need => R.bind (R.bind (R.bind (R.ret v_step) fun x => R.bind (R.ret (.int 1)) fun y => ixR x y) fun x => R.bind (R.ret v_inner) fun y => m_times x y) fun v_step_change => R.ret (.nx (v_step_need, v_step_change)))) fun s2 => R.bind (R.bind (R.ret s1.1) fun x => R.bind (R.bind (R.ret s2.1) fun x => R.bind (R.ret s1.2) fun y => m_less x y) fun y => m_greater x y) fun v_needed => R.bind (R.bind (R.ret s1.2) fun x => R.bind (R.ret s2.2) fun y => m_plus x y) fun v_changed => R.ret (.nx (v_needed, v_changed))) ds (v_needed, v_changed)) fun s1 => R.bind (R.bind (R.ret s1.1) fun x => R.bind (R.ret s1.2) fun y => R.ret (.tuple [x, y])) fun d => R.ret (.rt d ())
def m_need_and_change : Nat → D → D → R D
  | 0 => fun _ _ => bad
  | n + 1 => fun v_book v_run => endR0 (o_need_and_change (m_need_and_change n) v_book v_run)
def o_change (v_book v_run : D) : R (Out Unit Empty Unit) := R.bind (R.bind (R.bind (R.ret v_book) fun x => R.bind (R.ret v_run) fun y => m_need_and_change 6 x y) fun x => R.bind (R.ret (.int 1)) fun y => ixR x y) fun d => R.ret (.rt d ())
def m_change (v_book v_run : D) : R D := endR0 (o_change v_book v_run)
def o_need (v_book v_run : D) : R (Out Unit Empty Unit) := R.bind (R.bind (R.bind (R.ret v_book) fun x => R.bind (R.ret v_run) fun y => m_need_and_change 6 x y) fun x => R.bind (R.ret (.int 0)) fun y => ixR x y) fun d => R.ret (.rt d ())
def m_need (v_book v_run : D) : R D := endR0 (o_need v_book v_run)
def o_behind (v_book v_label v_run : D) : R (Out Unit Empty Unit) := R.bind (R.bind (R.bind (R.bind (R.ret v_label) fun x => R.bind (R.bind (R.ret v_book) fun x => R.bind (R.ret v_run) fun y => m_need x y) fun y => m_covers x y) fun x => boolR x) fun b => R.ret (!b)) fun b => if b = true then up (R.bind (R.ret .none) fun d => R.ret (.rt d ())) else (R.bind (R.bind (R.ret v_label) fun x => R.bind (R.bind (R.ret v_book) fun x => R.bind (R.ret v_run) fun y => m_change x y) fun y => m_moved x y) fun d => R.ret (.rt d ()))
def m_behind (v_book v_label v_run : D) : R D := endR0 (o_behind v_book v_label v_run)
def o_is_number (v_value v_least v_most : D) : R (Out Unit Empty Unit) := R.bind (R.bind (R.bind (R.bind (R.bind (R.ret v_value) fun x => isiR "int" x) fun x => boolR x) fun b => R.ret (!b)) fun x => if x = true then R.ret true else (R.bind (R.bind (R.bind (R.ret v_value) fun x => isiR "bool" x) fun x => boolR x) fun x => if x = true then R.ret true else (R.bind (R.ret v_value) fun x => R.bind (R.ret v_least) fun y => R.bind (ltR x y) boolR))) fun b => if b = true then up (R.bind (R.ret (.bool false)) fun d => R.ret (.rt d ())) else (R.bind (R.bind (R.bind (R.ret v_most) fun x => R.bind (R.ret .none) fun y => isR x y) fun x => R.bind (boolR x) fun x => if x = true then R.ret (.bool true) else (R.bind (R.ret v_value) fun x => R.bind (R.ret v_most) fun y => leR x y)) fun d => R.ret (.rt d ()))
def m_is_number (v_value v_least v_most : D) : R D := endR0 (o_is_number v_value v_least v_most)
def o_is_entries (v_value v_count v_least v_most : D) : R (Out Unit Empty Unit) := R.bind (R.bind (R.bind (R.bind (R.bind (R.ret v_value) fun x => isiR "tuple" x) fun x => boolR x) fun b => R.ret (!b)) fun x => if x = true then R.ret true else (R.bind (R.bind (R.ret v_value) fun x => lenR x) fun x => R.bind (R.ret v_count) fun y => R.bind (neR x y) boolR)) fun b => if b = true then up (R.bind (R.ret (.bool false)) fun d => R.ret (.rt d ())) else (R.bind (R.bind (R.bind (R.bind (R.bind (R.ret v_value) fun x => itemsR x) fun ds => compR (fun _ => R.ret true) (fun v_entry => (R.bind (R.ret v_entry) fun x => R.bind (R.ret v_least) fun y => R.bind (R.ret v_most) fun z => m_is_number x y z)) ds []) fun ds => R.ret (.list ds)) fun x => allR x) fun d => R.ret (.rt d ()))
def m_is_entries (v_value v_count v_least v_most : D) : R D := endR0 (o_is_entries v_value v_count v_least v_most)
def o_is_extended (v_book v_value : D) : R (Out Unit Empty Unit) := R.bind (R.bind (R.ret v_value) fun x => R.bind (R.bind (R.bind (R.ret v_book) fun x => R.bind (R.ret (.int 0)) fun y => ixR x y) fun x => lenR x) fun y => R.bind (R.bind (R.ret (.int 1)) fun x => negR x) fun z => R.bind (R.ret .none) fun w => m_is_entries x y z w) fun d => R.ret (.rt d ())
def m_is_extended (v_book v_value : D) : R D := endR0 (o_is_extended v_book v_value)
def o_is_closed (v_book v_stock v_rows : D) : R (Out Unit Empty Unit) := R.bind (R.bind (R.bind (R.bind (R.bind (R.ret v_rows) fun x => isiR "tuple" x) fun x => boolR x) fun b => R.ret (!b)) fun x => if x = true then R.ret true else (R.bind (R.bind (R.bind (R.bind (R.ret v_rows) fun x => itemsR x) fun ds => genR false (fun v_row => (R.bind (R.ret v_book) fun x => R.bind (R.ret v_row) fun y => m_is_extended x y)) ds) fun x => boolR x) fun b => R.ret (!b))) fun b => if b = true then up (R.bind (R.ret (.bool false)) fun d => R.ret (.rt d ())) else (R.bind (R.bind (R.bind (R.bind (R.bind (R.ret v_rows) fun x => itemsR x) fun ds => genR true (fun v_row => (R.bind (R.ret v_row) fun x => R.bind (R.ret v_stock) fun y => m_covers x y)) ds) fun x => boolR x) fun b => R.ret (!b)) fun b => if b = true then up (R.bind (R.ret (.bool false)) fun d => R.ret (.rt d ())) else (R.bind (R.bind (R.ret v_rows) fun x => itemsR x) fun ds => seqR (S := Unit) (forR (fun v_row (s5 : Unit) => R.bind (R.bind (R.bind (R.bind (R.ret v_book) fun x => R.bind (R.ret (.int 1)) fun y => ixR x y) fun x => lenR x) fun x => rng1R x) fun ds => seqR (S := Unit) (forR (fun v_m (s6 : Unit) => R.bind (R.bind (R.ret v_book) fun x => R.bind (R.ret v_row) fun y => R.bind (R.bind (R.bind (R.ret (.str "do")) fun x => R.bind (R.ret v_m) fun y => R.ret (.tuple [x, y])) fun x => R.ret (.tuple [x])) fun z => m_behind x y z) fun v_label => R.bind (R.bind (R.bind (R.ret v_label) fun x => R.bind (R.ret .none) fun y => R.bind (isNotR x y) boolR) fun x => if x = true then (R.bind (R.bind (R.bind (R.bind (R.ret v_rows) fun x => itemsR x) fun ds => genR true (fun v_other => (R.bind (R.ret v_other) fun x => R.bind (R.ret v_label) fun y => m_covers x y)) ds) fun x => boolR x) fun b => R.ret (!b)) else R.ret false) fun b => if b = true then (R.bind (R.ret (.bool false)) fun d => R.ret (.rt d ())) else (R.ret (.nx ()))) ds ()) fun s6 => R.ret (.nx ())) ds ()) fun s5 => R.bind (R.ret (.bool true)) fun d => R.ret (.rt d ())))
def m_is_closed (v_book v_stock v_rows : D) : R D := endR0 (o_is_closed v_book v_stock v_rows)
def o_law_same (rec : D → D → R D) (v_law_a v_law_b : D) : R (Out Unit Empty Unit) := R.bind (R.bind (R.bind (R.bind (R.ret v_law_a) fun x => isiR "tuple" x) fun x => boolR x) fun x => if x = true then (R.bind (R.bind (R.ret v_law_b) fun x => isiR "tuple" x) fun x => boolR x) else R.ret false) fun b => if b = true then up (R.bind (R.bind (R.bind (R.ret v_law_a) fun x => lenR x) fun x => R.bind (R.bind (R.ret v_law_b) fun x => lenR x) fun y => R.bind (neR x y) boolR) fun b => if b = true then up (R.bind (R.ret (.bool false)) fun d => R.ret (.rt d ())) else (R.bind (R.bind (R.bind (R.ret v_law_a) fun x => lenR x) fun x => rng1R x) fun ds => seqR (S := Unit) (forR (fun v_law_k (s1 : Unit) => R.bind (R.bind (R.bind (R.bind (R.bind (R.ret v_law_a) fun x => R.bind (R.ret v_law_k) fun y => ixR x y) fun x => R.bind (R.bind (R.ret v_law_b) fun x => R.bind (R.ret v_law_k) fun y => ixR x y) fun y => rec x y) fun x => boolR x) fun b => R.ret (!b)) fun b => if b = true then (R.bind (R.ret (.bool false)) fun d => R.ret (.rt d ())) else (R.ret (.nx ()))) ds ()) fun s1 => R.bind (R.ret (.bool true)) fun d => R.ret (.rt d ()))) else (R.bind (R.bind (R.bind (R.bind (R.ret v_law_a) fun x => isiR "bool" x) fun x => boolR x) fun x => if x = true then R.ret true else (R.bind (R.bind (R.ret v_law_b) fun x => isiR "bool" x) fun x => boolR x)) fun b => if b = true then up (R.bind (R.bind (R.bind (R.ret v_law_a) fun x => isiR "bool" x) fun x => R.bind (boolR x) fun x => if x = true then (R.bind (R.bind (R.ret v_law_b) fun x => isiR "bool" x) fun x => R.bind (boolR x) fun x => if x = true then (R.bind (R.ret v_law_a) fun x => R.bind (R.ret v_law_b) fun y => eqR x y) else R.ret (.bool false)) else R.ret (.bool false)) fun d => R.ret (.rt d ())) else (R.bind (R.bind (R.bind (R.bind (R.ret v_law_a) fun x => isiR "int" x) fun x => boolR x) fun x => if x = true then (R.bind (R.bind (R.ret v_law_b) fun x => isiR "int" x) fun x => boolR x) else R.ret false) fun b => if b = true then up (R.bind (R.bind (R.ret v_law_a) fun x => R.bind (R.ret v_law_b) fun y => eqR x y) fun d => R.ret (.rt d ())) else (R.bind (R.bind (R.bind (R.bind (R.ret v_law_a) fun x => isiR "str" x) fun x => boolR x) fun x => if x = true then (R.bind (R.bind (R.ret v_law_b) fun x => isiR "str" x) fun x => boolR x) else R.ret false) fun b => if b = true then up (R.bind (R.bind (R.ret v_law_a) fun x => R.bind (R.ret v_law_b) fun y => eqR x y) fun d => R.ret (.rt d ())) else (R.bind (R.bind (R.bind (R.ret v_law_a) fun x => R.bind (R.ret .none) fun y => isR x y) fun x => R.bind (boolR x) fun x => if x = true then (R.bind (R.ret v_law_b) fun x => R.bind (R.ret .none) fun y => isR x y) else R.ret (.bool false)) fun d => R.ret (.rt d ())))))
def m_law_same : Nat → D → D → R D
  | 0 => fun _ _ => bad
  | n + 1 => fun v_law_a v_law_b => endR0 (o_law_same (m_law_same n) v_law_a v_law_b)
def o_are_apart (v_rows : D) : R (Out Unit Empty Unit) := R.bind (R.bind (R.bind (R.ret v_rows) fun x => lenR x) fun x => rng1R x) fun ds => seqR (S := Unit) (forR (fun v_k (s1 : Unit) => R.bind (R.bind (R.bind (R.ret v_rows) fun x => lenR x) fun x => rng1R x) fun ds => seqR (S := Unit) (forR (fun v_n (s2 : Unit) => R.bind (R.bind (R.bind (R.ret v_k) fun x => R.bind (R.ret v_n) fun y => R.bind (neR x y) boolR) fun x => if x = true then (R.bind (R.bind (R.bind (R.ret v_rows) fun x => R.bind (R.ret v_k) fun y => ixR x y) fun x => R.bind (R.bind (R.ret v_rows) fun x => R.bind (R.ret v_n) fun y => ixR x y) fun y => m_covers x y) fun x => boolR x) else R.ret false) fun b => if b = true then (R.bind (R.ret (.bool false)) fun d => R.ret (.rt d ())) else (R.ret (.nx ()))) ds ()) fun s2 => R.ret (.nx ())) ds ()) fun s1 => R.bind (R.ret (.bool true)) fun d => R.ret (.rt d ())
def m_are_apart (v_rows : D) : R D := endR0 (o_are_apart v_rows)
def o_order_key (v_label : D) : R (Out Unit Empty Unit) := R.bind (R.bind (R.bind (R.bind (R.bind (R.ret v_label) fun x => itemsR x) fun ds => compR (fun _ => R.ret true) (fun v_entry => (R.bind (R.bind (R.ret v_entry) fun x => R.bind (R.ret (.int (-1))) fun y => R.bind (eqR x y) boolR) fun x => if x = true then (R.bind (R.ret (.int 0)) fun x => R.bind (R.ret (.int 0)) fun y => R.ret (.tuple [x, y])) else (R.bind (R.ret (.int 1)) fun x => R.bind (R.bind (R.ret v_entry) fun x => negR x) fun y => R.ret (.tuple [x, y])))) ds []) fun ds => R.ret (.list ds)) fun x => tupleR x) fun d => R.ret (.rt d ())
def m_order_key (v_label : D) : R D := endR0 (o_order_key v_label)
def o_in_order (v_rows : D) : R (Out Unit Empty Unit) := R.bind (R.bind (R.bind (R.ret v_rows) fun x => sortKR m_order_key x) fun ds => R.ret (.list ds)) fun d => R.ret (.rt d ())
def m_in_order (v_rows : D) : R D := endR0 (o_in_order v_rows)
def o_is_step (rec : D → D → D → R D) (v_book v_value v_nested : D) : R (Out Unit Empty Unit) := R.bind (R.bind (R.bind (R.bind (R.bind (R.ret v_value) fun x => isiR "tuple" x) fun x => boolR x) fun b => R.ret (!b)) fun x => if x = true then R.ret true else (R.bind (R.bind (R.bind (R.ret v_value) fun x => lenR x) fun x => R.bind (R.ret (.int 0)) fun y => R.bind (eqR x y) boolR) fun x => if x = true then R.ret true else (R.bind (R.bind (R.bind (R.bind (R.ret v_value) fun x => R.bind (R.ret (.int 0)) fun y => ixR x y) fun x => isiR "str" x) fun x => boolR x) fun b => R.ret (!b)))) fun b => if b = true then up (R.bind (R.ret (.bool false)) fun d => R.ret (.rt d ())) else (R.bind (R.bind (R.bind (R.bind (R.ret v_value) fun x => R.bind (R.ret (.int 0)) fun y => ixR x y) fun x => R.bind (R.ret (.str "do")) fun y => R.bind (eqR x y) boolR) fun x => if x = true then (R.bind (R.bind (R.ret v_value) fun x => lenR x) fun x => R.bind (R.ret (.int 2)) fun y => R.bind (eqR x y) boolR) else R.ret false) fun b => if b = true then up (R.bind (R.bind (R.bind (R.ret v_value) fun x => R.bind (R.ret (.int 1)) fun y => ixR x y) fun x => R.bind (R.ret (.int 0)) fun y => R.bind (R.bind (R.bind (R.bind (R.ret v_book) fun x => R.bind (R.ret (.int 1)) fun y => ixR x y) fun x => lenR x) fun x => R.bind (R.ret (.int 1)) fun y => subR x y) fun z => m_is_number x y z) fun d => R.ret (.rt d ())) else (R.bind (R.bind (R.bind (R.bind (R.ret v_value) fun x => R.bind (R.ret (.int 0)) fun y => ixR x y) fun x => R.bind (R.ret (.str "rep")) fun y => R.bind (neR x y) boolR) fun x => if x = true then R.ret true else (R.bind (R.bind (R.bind (R.ret v_value) fun x => lenR x) fun x => R.bind (R.ret (.int 3)) fun y => R.bind (neR x y) boolR) fun x => if x = true then R.ret true else (R.bind (R.bind (R.bind (R.bind (R.ret v_value) fun x => R.bind (R.ret (.int 1)) fun y => ixR x y) fun x => R.bind (R.ret (.int 1)) fun y => R.bind (R.ret .none) fun z => m_is_number x y z) fun x => boolR x) fun b => R.ret (!b)))) fun b => if b = true then up (R.bind (R.ret (.bool false)) fun d => R.ret (.rt d ())) else (R.bind (R.bind (R.bind (R.ret v_nested) fun x => R.bind (R.ret (.int 1)) fun y => gtR x y) fun x => R.bind (boolR x) fun x => if x = true then (R.bind (R.bind (R.bind (R.ret v_value) fun x => R.bind (R.ret (.int 2)) fun y => ixR x y) fun x => R.bind (R.ret (.tuple [])) fun y => neR x y) fun x => R.bind (boolR x) fun x => if x = true then (R.bind (R.ret v_book) fun x => R.bind (R.bind (R.ret v_value) fun x => R.bind (R.ret (.int 2)) fun y => ixR x y) fun y => R.bind (R.bind (R.ret v_nested) fun x => R.bind (R.ret (.int 1)) fun y => subR x y) fun z => rec x y z) else R.ret (.bool false)) else R.ret (.bool false)) fun d => R.ret (.rt d ()))))
def m_is_step (rec : D → D → D → R D) (v_book v_value v_nested : D) : R D := endR0 (o_is_step rec v_book v_value v_nested)
def o_are_steps (rec : D → D → D → R D) (v_book v_value v_nested : D) : R (Out Unit Empty Unit) := R.bind (R.bind (R.bind (R.bind (R.ret v_value) fun x => isiR "tuple" x) fun x => boolR x) fun b => R.ret (!b)) fun b => if b = true then up (R.bind (R.ret (.bool false)) fun d => R.ret (.rt d ())) else (R.bind (R.bind (R.bind (R.bind (R.bind (R.ret v_value) fun x => itemsR x) fun ds => compR (fun _ => R.ret true) (fun v_step => (R.bind (R.ret v_book) fun x => R.bind (R.ret v_step) fun y => R.bind (R.ret v_nested) fun z => m_is_step rec x y z)) ds []) fun ds => R.ret (.list ds)) fun x => allR x) fun d => R.ret (.rt d ()))
def m_are_steps : Nat → D → D → D → R D
  | 0 => fun _ _ _ => bad
  | n + 1 => fun v_book v_value v_nested => endR0 (o_are_steps (m_are_steps n) v_book v_value v_nested)
def o_is_run (v_book v_value : D) : R (Out Unit Empty Unit) := R.bind (R.bind (R.ret v_book) fun x => R.bind (R.ret v_value) fun y => R.bind (R.ret (.int 30)) fun z => m_are_steps 10 x y z) fun d => R.ret (.rt d ())
def m_is_run (v_book v_value : D) : R D := endR0 (o_is_run v_book v_value)
def o_is_plan (v_book v_value : D) : R (Out Unit Empty Unit) := R.bind (R.bind (R.bind (R.bind (R.ret v_value) fun x => isiR "tuple" x) fun x => boolR x) fun b => R.ret (!b)) fun b => if b = true then up (R.bind (R.ret (.bool false)) fun d => R.ret (.rt d ())) else (R.bind (R.bind (R.ret v_value) fun x => itemsR x) fun ds => seqR (S := Unit) (forR (fun v_part (s1 : Unit) => R.bind (R.bind (R.bind (R.bind (R.bind (R.ret v_part) fun x => isiR "tuple" x) fun x => boolR x) fun b => R.ret (!b)) fun x => if x = true then R.ret true else (R.bind (R.bind (R.bind (R.ret v_part) fun x => lenR x) fun x => R.bind (R.ret (.int 2)) fun y => R.bind (neR x y) boolR) fun x => if x = true then R.ret true else (R.bind (R.bind (R.ret v_part) fun x => R.bind (R.ret (.int 0)) fun y => ixR x y) fun x => R.bind (R.bind (R.ret (.str "run")) fun x => R.bind (R.ret (.str "pump")) fun y => R.ret (.tuple [x, y])) fun y => R.bind (ninR x y) boolR))) fun b => if b = true then up (R.bind (R.ret (.bool false)) fun d => R.ret (.rt d ())) else (R.bind (R.bind (R.bind (R.bind (R.bind (R.ret v_book) fun x => R.bind (R.bind (R.ret v_part) fun x => R.bind (R.ret (.int 1)) fun y => ixR x y) fun y => m_is_run x y) fun x => boolR x) fun b => R.ret (!b)) fun x => if x = true then R.ret true else (R.bind (R.bind (R.bind (R.ret v_part) fun x => R.bind (R.ret (.int 1)) fun y => ixR x y) fun x => lenR x) fun x => R.bind (R.ret (.int 0)) fun y => R.bind (eqR x y) boolR)) fun b => if b = true then (R.bind (R.ret (.bool false)) fun d => R.ret (.rt d ())) else (R.ret (.nx ())))) ds ()) fun s1 => R.bind (R.ret (.bool true)) fun d => R.ret (.rt d ()))
def m_is_plan (v_book v_value : D) : R D := endR0 (o_is_plan v_book v_value)
def o_pumped (v_book v_label v_run : D) : R (Out Unit Empty Unit) := R.bind (R.bind (R.ret v_book) fun x => R.bind (R.ret v_run) fun y => m_change x y) fun v_amounts => R.bind (R.bind (R.bind (R.bind (R.ret v_label) fun x => R.bind (R.bind (R.ret v_book) fun x => R.bind (R.ret v_run) fun y => m_need x y) fun y => m_covers x y) fun x => boolR x) fun b => R.ret (!b)) fun b => if b = true then up (R.bind (R.ret .none) fun d => R.ret (.rt d ())) else (R.bind (R.bind (R.bind (R.bind (R.bind (R.ret v_label) fun x => lenR x) fun x => rng1R x) fun ds => genR true (fun v_k => (R.bind (R.bind (R.bind (R.ret v_label) fun x => R.bind (R.ret v_k) fun y => ixR x y) fun x => R.bind (R.ret (.int (-1))) fun y => neR x y) fun x => R.bind (boolR x) fun x => if x = true then (R.bind (R.bind (R.ret v_amounts) fun x => R.bind (R.ret v_k) fun y => ixR x y) fun x => R.bind (R.ret (.int 0)) fun y => ltR x y) else R.ret (.bool false))) ds) fun x => boolR x) fun b => if b = true then up (R.bind (R.ret .none) fun d => R.ret (.rt d ())) else (R.bind (R.bind (R.bind (R.bind (R.bind (R.bind (R.ret v_label) fun x => lenR x) fun x => rng1R x) fun ds => compR (fun _ => R.ret true) (fun v_k => (R.bind (R.bind (R.bind (R.ret v_amounts) fun x => R.bind (R.ret v_k) fun y => ixR x y) fun x => R.bind (R.ret (.int 0)) fun y => R.bind (gtR x y) boolR) fun x => if x = true then (R.ret (.int (-1))) else (R.bind (R.ret v_label) fun x => R.bind (R.ret v_k) fun y => ixR x y))) ds []) fun ds => R.ret (.list ds)) fun x => tupleR x) fun d => R.ret (.rt d ())))
def m_pumped (v_book v_label v_run : D) : R D := endR0 (o_pumped v_book v_label v_run)
def o_labels (v_book v_stock v_plan : D) : R (Out Unit Empty Unit) := R.bind (nx (R.bind (R.bind (R.bind (R.ret v_book) fun x => R.bind (R.ret v_plan) fun y => m_is_plan x y) fun x => boolR x) fun b => R.ret (!b))) fun b => if b = true then up (R.exc 0 .none) else (R.bind (nx (R.bind (R.ret v_stock) fun x => R.ret [x])) fun v_found => R.bind (nx (R.bind (R.ret v_plan) fun x => itemsR x)) fun ds => seqR (S := List D) (forR (fun d (s1 : List D) => unp2 d fun v_word v_run => R.bind (nx (R.bind (R.bind (R.ret v_word) fun x => R.bind (R.ret (.str "run")) fun y => R.bind (eqR x y) boolR) fun x => if x = true then (R.bind (R.ret v_book) fun x => R.bind (R.bind (R.ret (.list s1)) fun x => R.bind (R.bind (R.ret (.int 1)) fun x => negR x) fun y => ixR x y) fun y => R.bind (R.ret v_run) fun z => m_behind x y z) else (R.bind (R.ret v_book) fun x => R.bind (R.bind (R.ret (.list s1)) fun x => R.bind (R.bind (R.ret (.int 1)) fun x => negR x) fun y => ixR x y) fun y => R.bind (R.ret v_run) fun z => m_pumped x y z))) fun v_label => R.bind (nx (R.bind (R.ret v_label) fun x => R.bind (R.ret .none) fun y => R.bind (isR x y) boolR)) fun b => if b = true then up (R.exc 0 .none) else (R.bind (nx (R.ret v_label)) fun d => R.bind (appR s1 d) fun v_found => R.ret (.nx v_found))) ds v_found) fun s1 => R.ret (.rt (.list s1) ()))
def m_labels (v_book v_stock v_plan : D) : R D := endR0 (o_labels v_book v_stock v_plan)
def o_end_of (v_book v_stock v_plan : D) : R (Out Unit Empty Unit) := R.bind (R.bind (R.ret v_book) fun d => R.bind (R.bind (R.ret v_stock) fun d => R.bind (R.bind (R.ret v_plan) fun d => R.bind (R.ret []) fun ds => R.ret (d :: ds)) fun ds => R.ret (d :: ds)) fun ds => R.ret (d :: ds)) fun ds => tryR 0 (fun d => R.bind (R.bind (R.ret (.int 1)) fun x => negR x) fun y => R.bind (ixR d y) fun z => R.ret (.rt z ())) (fun _ => upE (R.bind (R.ret .none) fun d => R.ret (.rt d ()))) (l3 m_labels ds)
def m_end_of (v_book v_stock v_plan : D) : R D := endR0 (o_end_of v_book v_stock v_plan)
def o_is_report (v_book v_stock v_value : D) : R (Out Unit Empty Unit) := R.bind (R.bind (R.bind (R.bind (R.bind (R.ret v_value) fun x => isiR "tuple" x) fun x => boolR x) fun b => R.ret (!b)) fun x => if x = true then R.ret true else (R.bind (R.bind (R.bind (R.bind (R.ret v_value) fun x => itemsR x) fun ds => genR false (fun v_row => (R.bind (R.bind (R.ret v_row) fun x => isiR "tuple" x) fun x => R.bind (boolR x) fun x => if x = true then (R.bind (R.bind (R.ret v_row) fun x => lenR x) fun x => R.bind (R.ret (.int 2)) fun y => eqR x y) else R.ret (.bool false))) ds) fun x => boolR x) fun b => R.ret (!b))) fun b => if b = true then up (R.bind (R.ret (.bool false)) fun d => R.ret (.rt d ())) else (R.bind (R.bind (R.bind (R.bind (R.bind (R.ret v_value) fun x => itemsR x) fun ds => compR (fun _ => R.ret true) (fun v_row => (R.bind (R.ret v_row) fun x => R.bind (R.ret (.int 0)) fun y => ixR x y)) ds []) fun ds => R.ret (.list ds)) fun x => tupleR x) fun v_rows => R.bind (R.bind (R.bind (R.bind (R.bind (R.ret v_book) fun x => R.bind (R.ret v_stock) fun y => R.bind (R.ret v_rows) fun z => m_is_closed x y z) fun x => boolR x) fun b => R.ret (!b)) fun x => if x = true then R.ret true else (R.bind (R.bind (R.bind (R.bind (R.ret v_rows) fun x => m_are_apart x) fun x => boolR x) fun b => R.ret (!b)) fun x => if x = true then R.ret true else (R.bind (R.bind (R.ret v_rows) fun x => listR x) fun x => R.bind (R.bind (R.ret v_rows) fun x => m_in_order x) fun y => R.bind (neR x y) boolR))) fun b => if b = true then up (R.bind (R.ret (.bool false)) fun d => R.ret (.rt d ())) else (R.bind (R.bind (R.bind (R.ret v_value) fun x => itemsR x) fun ds => genR false (fun d => unp2 d fun v_label v_plan => (R.bind (R.bind (R.ret v_book) fun x => R.bind (R.ret v_stock) fun y => R.bind (R.ret v_plan) fun z => m_end_of x y z) fun x => R.bind (R.ret v_label) fun y => eqR x y)) ds) fun d => R.ret (.rt d ())))
def m_is_report (v_book v_stock v_value : D) : R D := endR0 (o_is_report v_book v_stock v_value)
def o_law : R (Out Unit Empty Unit) := R.bind (R.bind (R.ret (.int 1)) fun x => R.bind (R.bind (R.ret (.int 6)) fun x => drawB x) fun y => addR x y) fun v_law_many => R.bind (R.bind (R.bind (R.bind (R.ret (.str "wood")) fun d => R.bind (R.bind (R.ret (.str "gold")) fun d => R.bind (R.bind (R.ret (.str "ore")) fun d => R.bind (R.bind (R.ret (.str "tea")) fun d => R.bind (R.bind (R.ret (.str "salt")) fun d => R.bind (R.bind (R.ret (.str "ink")) fun d => R.bind (R.ret []) fun ds => R.ret (d :: ds)) fun ds => R.ret (d :: ds)) fun ds => R.ret (d :: ds)) fun ds => R.ret (d :: ds)) fun ds => R.ret (d :: ds)) fun ds => R.ret (d :: ds)) fun ds => if ds.length ≤ sizeLine then R.ret (.tuple ds) else bad) fun x => R.bind (R.ret none) fun l => R.bind (R.bind (R.ret v_law_many) fun x => partR x) fun h => sliceR x l h) fun v_law_kinds => R.bind (R.bind (R.bind (R.bind (R.ret (.int 8)) fun x => drawB x) fun x => rng1R x) fun ds => compR (fun _ => R.ret true) (fun v_law_k => (R.bind (R.ret v_law_many) fun x => R.bind (R.bind (R.ret (.str "lose")) fun x => R.bind (R.bind (R.ret v_law_k) fun x => strI x) fun y => addR x y) fun y => m_law_losing x y)) ds []) fun v_law_moves => R.bind (R.bind (R.bind (R.bind (R.bind (R.ret v_law_many) fun x => rng1R x) fun ds => compR (fun _ => R.ret true) (fun v_law_k => (R.bind (R.bind (R.bind (R.bind (R.ret (.int 9)) fun x => drawB x) fun x => R.bind (R.bind (R.ret (.int 2001)) fun x => drawB x) fun y => R.bind (R.bind (R.ret (.int 1000001)) fun x => drawB x) fun z => R.ret [x, y, z]) fun ds => R.ret (.list ds)) fun x => R.bind (R.bind (R.ret (.int 3)) fun x => drawB x) fun y => ixR x y)) ds []) fun ds => R.ret (.list ds)) fun x => tupleR x) fun v_law_stock => R.bind (R.bind (R.ret v_law_kinds) fun x => R.bind (R.bind (R.ret (.list v_law_moves)) fun x => tupleR x) fun y => R.ret (.tuple [x, y])) fun v_law_book => R.bind (R.bind (R.bind (R.bind (R.ret v_law_book) fun x => R.bind (R.ret v_law_stock) fun y => R.bind (R.bind (R.ret v_law_stock) fun x => R.ret (.tuple [x])) fun z => m_is_closed x y z) fun x => R.bind (R.ret (.bool true)) fun y => R.bind (isNotR x y) boolR) fun x => if x = true then R.ret true else (R.bind (R.bind (R.ret v_law_book) fun x => R.bind (R.ret v_law_stock) fun y => R.bind (R.bind (R.bind (R.ret v_law_stock) fun x => R.bind (R.ret (.tuple [])) fun y => R.ret (.tuple [x, y])) fun x => R.ret (.tuple [x])) fun z => m_is_report x y z) fun x => R.bind (R.ret (.bool true)) fun y => R.bind (isNotR x y) boolR)) fun b => if b = true then up (R.bind (R.ret (.bool false)) fun d => R.ret (.rt d ())) else (R.bind (R.bind (R.bind (R.bind (R.ret (.list v_law_moves)) fun x => lenR x) fun x => R.bind (R.ret (.int 1)) fun y => addR x y) fun x => drawB x) fun v_law_at => R.bind (R.bind (R.ret v_law_many) fun x => drawB x) fun v_law_k => R.bind (R.bind (R.bind (R.ret v_law_stock) fun x => itemsR x) fun ds => compR (fun _ => R.ret true) (fun v_law_entry_here => (R.bind (R.ret (.int 1000)) fun x => R.bind (R.bind (R.bind (R.ret v_law_entry_here) fun x => R.bind (R.ret (.int 1)) fun y => addR x y) fun x => drawB x) fun y => minR x y)) ds []) fun v_law_take => R.bind (R.bind (R.bind (R.ret (.int 3)) fun x => drawB x) fun x => R.bind (R.ret (.int 0)) fun y => R.bind (eqR x y) boolR) fun b => seqR (S := List D) (if b = true then (R.bind (R.ret (.int 1000)) fun x => R.bind (R.bind (R.ret v_law_many) fun x => drawB x) fun y => R.bind (putIx v_law_take y x) fun v_law_take => R.ret (.nx v_law_take)) else (R.ret (.nx v_law_take))) fun s1 => R.bind (R.bind (R.bind (R.ret (.list s1)) fun x => R.bind (R.ret v_law_k) fun y => ixR x y) fun x => R.bind (R.ret (.int 990)) fun y => minR x y) fun x => R.bind (R.ret v_law_k) fun y => R.bind (putIx s1 y x) fun v_law_take => R.bind (R.bind (R.ret (.list v_law_take)) fun x => listL x) fun v_law_give => R.bind (R.bind (R.bind (R.bind (R.ret (.list v_law_take)) fun x => R.bind (R.ret v_law_k) fun y => ixR x y) fun x => R.bind (R.ret (.int 1)) fun y => addR x y) fun x => R.bind (R.bind (R.ret (.int 10)) fun x => drawB x) fun y => addR x y) fun x => R.bind (R.ret v_law_k) fun y => R.bind (putIx v_law_give y x) fun v_law_give => R.bind (R.bind (R.ret (.str "gain")) fun x => R.bind (R.bind (R.ret (.list v_law_take)) fun x => tupleR x) fun y => R.bind (R.bind (R.bind (R.ret (.int 0)) fun x => R.ret (.tuple [x])) fun x => R.bind (R.ret v_law_many) fun y => mulR x y) fun z => R.bind (R.bind (R.ret (.list v_law_give)) fun x => tupleR x) fun w => R.ret (.tuple [x, y, z, w])) fun v_law_gaining => R.bind (R.bind (R.ret v_law_kinds) fun x => R.bind (R.bind (R.bind (R.bind (R.bind (R.ret (.list v_law_moves)) fun x => R.bind (R.ret none) fun l => R.bind (R.bind (R.ret v_law_at) fun x => partR x) fun h => sliceR x l h) fun x => R.bind (R.bind (R.bind (R.ret v_law_gaining) fun x => R.ret [x]) fun ds => R.ret (.list ds)) fun y => addR x y) fun x => R.bind (R.bind (R.ret (.list v_law_moves)) fun x => R.bind (R.bind (R.ret v_law_at) fun x => partR x) fun l => R.bind (R.ret none) fun h => sliceR x l h) fun y => addR x y) fun x => tupleR x) fun y => R.ret (.tuple [x, y])) fun v_law_book => R.bind (R.bind (R.bind (R.bind (R.bind (R.ret v_law_many) fun x => rng1R x) fun ds => compR (fun _ => R.ret true) (fun v_law_j => (R.bind (R.bind (R.ret (.list v_law_take)) fun x => R.bind (R.ret v_law_j) fun y => ixR x y) fun x => R.bind (R.bind (R.ret v_law_stock) fun x => R.bind (R.ret v_law_j) fun y => ixR x y) fun y => gtR x y)) ds []) fun ds => R.ret (.list ds)) fun x => anyR x) fun v_law_due => R.bind (R.bind (R.bind (R.bind (R.bind (R.bind (R.ret v_law_book) fun x => R.bind (R.ret v_law_stock) fun y => R.bind (R.bind (R.ret v_law_stock) fun x => R.ret (.tuple [x])) fun z => m_is_closed x y z) fun x => R.bind (R.ret v_law_due) fun y => m_law_same 2 x y) fun x => boolR x) fun b => R.ret (!b)) fun x => if x = true then R.ret true else (R.bind (R.bind (R.bind (R.bind (R.ret v_law_book) fun x => R.bind (R.ret v_law_stock) fun y => R.bind (R.bind (R.bind (R.ret v_law_stock) fun x => R.bind (R.ret (.tuple [])) fun y => R.ret (.tuple [x, y])) fun x => R.ret (.tuple [x])) fun z => m_is_report x y z) fun x => R.bind (R.ret v_law_due) fun y => m_law_same 2 x y) fun x => boolR x) fun b => R.ret (!b))) fun b => if b = true then up (R.bind (R.ret (.bool false)) fun d => R.ret (.rt d ())) else (R.bind (R.bind (R.bind (R.bind (R.ret v_law_stock) fun x => R.bind (R.ret none) fun l => R.bind (R.bind (R.ret v_law_k) fun x => partR x) fun h => sliceR x l h) fun x => R.bind (R.bind (R.ret (.int (-1))) fun x => R.ret (.tuple [x])) fun y => addR x y) fun x => R.bind (R.bind (R.ret v_law_stock) fun x => R.bind (R.bind (R.bind (R.ret v_law_k) fun x => R.bind (R.ret (.int 1)) fun y => addR x y) fun x => partR x) fun l => R.bind (R.ret none) fun h => sliceR x l h) fun y => addR x y) fun v_law_label => R.bind (R.bind (R.bind (R.ret (.str "do")) fun x => R.bind (R.ret v_law_at) fun y => R.ret (.tuple [x, y])) fun x => R.ret (.tuple [x])) fun v_law_run => R.bind (R.bind (R.bind (R.ret (.str "run")) fun x => R.bind (R.ret v_law_run) fun y => R.ret (.tuple [x, y])) fun x => R.bind (R.bind (R.ret (.str "pump")) fun x => R.bind (R.ret v_law_run) fun y => R.ret (.tuple [x, y])) fun y => R.ret (.tuple [x, y])) fun v_law_plan => R.bind (R.bind (R.bind (R.ret v_law_book) fun x => R.bind (R.ret v_law_stock) fun y => R.bind (R.bind (R.ret v_law_label) fun x => R.ret (.tuple [x])) fun z => m_is_closed x y z) fun x => R.bind (R.ret (.bool true)) fun y => R.bind (isNotR x y) boolR) fun b => if b = true then up (R.bind (R.ret (.bool false)) fun d => R.ret (.rt d ())) else (R.bind (R.bind (R.bind (R.bind (R.bind (R.ret v_law_book) fun x => R.bind (R.ret v_law_stock) fun y => R.bind (R.bind (R.bind (R.ret v_law_label) fun x => R.bind (R.ret v_law_plan) fun y => R.ret (.tuple [x, y])) fun x => R.ret (.tuple [x])) fun z => m_is_report x y z) fun x => R.bind (R.bind (R.ret v_law_due) fun x => notR x) fun y => m_law_same 2 x y) fun x => boolR x) fun b => R.ret (!b)) fun b => if b = true then up (R.bind (R.ret (.bool false)) fun d => R.ret (.rt d ())) else (R.bind (R.bind (R.bind (R.bind (R.ret v_law_book) fun x => R.bind (R.ret v_law_stock) fun y => R.bind (R.bind (R.bind (R.ret v_law_label) fun x => R.bind (R.bind (R.ret v_law_plan) fun x => R.bind (R.ret none) fun l => R.bind (R.bind (R.ret (.int 1)) fun x => partR x) fun h => sliceR x l h) fun y => R.ret (.tuple [x, y])) fun x => R.ret (.tuple [x])) fun z => m_is_report x y z) fun x => R.bind (R.ret (.bool false)) fun y => isR x y) fun x => R.bind (boolR x) fun x => if x = true then (R.bind (R.bind (R.ret v_law_book) fun x => R.bind (R.ret v_law_stock) fun y => R.bind (R.bind (R.bind (R.ret v_law_label) fun x => R.bind (R.ret (.tuple [])) fun y => R.ret (.tuple [x, y])) fun x => R.ret (.tuple [x])) fun z => m_is_report x y z) fun x => R.bind (R.ret (.bool false)) fun y => isR x y) else R.ret (.bool false)) fun d => R.ret (.rt d ())))))
end k46
namespace k46
open Pu PySem R
/-! What the program's defs about runs come to. -/
theorem le_size {n : Nat} (h : n ≤ 1000) : n ≤ sizeLine := Nat.le_of_lt (small1000' h)
theorem small62 {n : Nat} (h : n ≤ 1000) : n < 4611686018427387904 := Nat.lt_of_le_of_lt h (by decide)
section
variable {n : Nat} {a b : Nat → Int}
theorem plus_eq (hn : n ≤ 1000) : m_plus (vec n a) (vec n b) = R.ret (vec n fun k => a k + b k) := by
  unfold m_plus o_plus endR0
  simp only [rb, R.bind_assoc, len_vec, rng_nat (small62 hn)]
  rw [comp_range (g := fun k => PyData.int (a k + b k)) (le_size hn) fun k hk => by simp only [rb, ix_vec hk, add_int]]
  rfl
theorem less_eq (hn : n ≤ 1000) : m_less (vec n a) (vec n b) = R.ret (vec n fun k => a k - b k) := by
  unfold m_less o_less endR0
  simp only [rb, R.bind_assoc, len_vec, rng_nat (small62 hn)]
  rw [comp_range (g := fun k => PyData.int (a k - b k)) (le_size hn) fun k hk => by simp only [rb, ix_vec hk, sub_int]]
  rfl
theorem greater_eq (hn : n ≤ 1000) : m_greater (vec n a) (vec n b) = R.ret (vec n fun k => max (a k) (b k)) := by
  unfold m_greater o_greater endR0
  simp only [rb, R.bind_assoc, len_vec, rng_nat (small62 hn)]
  rw [comp_range (g := fun k => PyData.int (max (a k) (b k))) (le_size hn) fun k hk => by
    simp only [rb, ix_vec hk, max_int]
    congr 2
    split <;> omega]
  rfl
theorem times_eq (hn : n ≤ 1000) {c : Int} (hc : -(2 ^ 64) < c ∧ c < 2 ^ 64) : m_times (.int c) (vec n a) = R.ret (vec n fun k => c * a k) := by
  unfold m_times o_times endR0
  simp only [rb, R.bind_assoc, items_vec]
  rw [comp_vec (g := fun k => PyData.int (c * a k)) (le_size hn) fun k hk => mul_int (.inl hc)]
  rfl
/-- entry by entry, -1 above all -/
def Cov (n : Nat) (a b : Nat → Int) : Prop := ∀ k, k < n → a k = -1 ∨ (b k ≠ -1 ∧ b k ≤ a k)
instance : Decidable (Cov n a b) := by unfold Cov; exact inferInstance
theorem covers_ok (hn : n ≤ 1000) : Ok (m_covers (vec n a) (vec n b)) fun d => d = .bool (decide (Cov n a b)) := by
  unfold m_covers o_covers
  refine ok_end ?_
  simp only [rb, R.bind_assoc, len_vec, rng_nat (small62 hn)]
  refine ok_seq (ok_range (fun j _ => ∀ k, k < j → a k = -1 ∨ (b k ≠ -1 ∧ b k ≤ a k)) (fun k hk => by omega) (fun j s hj hi => ?_) fun s hi => ?_)
  · simp only [ix_vec hj, rb, neg_int, ne_int, bool_b, lt_int, eq_int]
    by_cases h1 : a j = -1
    · simp only [h1, decide_true, Bool.not_true, Bool.false_eq_true, if_false, rb, okr]
      intro k hk
      by_cases e : k = j
      · subst e; exact .inl h1
      · exact hi k (by omega)
    · simp only [h1, decide_false, Bool.not_false, if_true, rb]
      by_cases h2 : b j = -1
      · simp only [h2, decide_true, if_true, rb, okr]
        rw [decide_eq_false]
        intro hc
        rcases hc j hj with z | z
        · exact h1 z
        · exact z.1 h2
      · simp only [h2, decide_false, Bool.false_eq_true, if_false, rb]
        by_cases h3 : a j < b j
        · simp only [h3, decide_true, if_true, rb, okr]
          rw [decide_eq_false]
          intro hc
          rcases hc j hj with z | z
          · exact h1 z
          · omega
        · simp only [h3, decide_false, Bool.false_eq_true, if_false, rb, okr]
          intro k hk
          by_cases e : k = j
          · subst e; exact .inr ⟨h2, by omega⟩
          · exact hi k (by omega)
  · simp only [rb, okr]
    rw [decide_eq_true]
    exact hi
end
section
variable {b : Bk} {most cm : Int}
theorem book_moves : ixR b.d (.int 1) = R.ret (.tuple b.moves) := ix1
theorem book_names : ixR b.d (.int 0) = R.ret (.tuple b.names) := ix0
theorem move_at {m : Nat} (h : m < b.mm) : ixR (.tuple b.moves) (.int (m : Int)) = R.ret (b.move m) := ix_tup (b.moves_get h)
theorem move_take {m : Nat} : ixR (b.move m) (.int 1) = R.ret (vec b.n (b.tk m)) := ix1
theorem move_low {m : Nat} : ixR (b.move m) (.int 2) = R.ret (vec b.n (b.lo m)) := ix2
theorem move_high {m : Nat} : ixR (b.move m) (.int 3) = R.ret (vec b.n (b.hi m)) := ix3
theorem eq_do : eqR (.str "do") (.str "do") = R.ret (.bool true) := eq_yes (k := 0) (by unfold Pl; decide +kernel) (by decide)
theorem eq_rep : eqR (.str "rep") (.str "do") = R.ret (.bool false) := eq_no (k := 0) (by unfold Pl; decide +kernel) (by unfold Pl; decide +kernel) (by decide) (fun h => by injection h with h; revert h; decide)
theorem zero_eq (h : b.Fine most) : mulR (.tuple [.int 0]) (.int (b.names.length : Nat)) = R.ret (vec b.n fun _ => 0) := by
  have h1 := h.n1
  have h2 := h.n2
  rw [h.nl]
  have hc : ([PyData.int 0] : List D) ≠ [] ∧ 1 ≤ ((b.n : Nat) : Int) ∧ ((b.n : Nat) : Int) ≤ 1000 ∧ ([PyData.int 0] : List D).length ≤ 1000 := ⟨by simp, by omega, by omega, by simp⟩
  simp only [mulR, hc, not_false_eq_true, and_self, if_true, Int.toNat_natCast, ne_eq]
  congr 2
  unfold vecL
  apply List.ext_getElem?
  intro i
  have e : ∀ m : Nat, (List.replicate m [PyData.int 0]).flatten = List.replicate m (PyData.int 0) := by
    intro m
    induction m with
    | zero => rfl
    | succ m ih => rw [List.replicate_succ, List.flatten_cons, ih, List.replicate_succ]; rfl
  rw [e, List.getElem?_replicate, List.getElem?_map]
  by_cases hi : i < b.n
  · rw [if_pos hi, List.getElem?_range hi]; rfl
  · rw [if_neg hi, List.getElem?_eq_none (by rw [List.length_range]; omega)]; rfl
theorem fin1000 (h : b.Fine most) : b.n ≤ 1000 := Nat.le_trans h.n2 (by decide)
/-- how a run's steps are walked -/
theorem nac_loop (h : b.Fine most) (hcm : cm < 2 ^ 64) {k : Nat} {rec : D → D → R D} (hrec : ∀ (j : Nat) (es : List D) (ns : List Nat), j < k → RunD b.mm cm j es ns → Ok (rec b.d (.tuple es)) fun d => d = .tuple [vec b.n (b.need ns), vec b.n (b.chg ns)])
    {ds : List D} {ms : List Nat} (hr : RunD b.mm cm k ds ms) {f : D → D × D → R (Out (D × D) (D × D) Unit)}
    (hf1 : ∀ (m : Nat) (ps : List Nat) (Q : Out (D × D) (D × D) Unit → Prop), m < b.mm → Q (.nx (vec b.n (b.need (ps ++ [m])), vec b.n (b.chg (ps ++ [m])))) → Ok (f (.tuple [.str "do", .int m]) (vec b.n (b.need ps), vec b.n (b.chg ps))) Q)
    (hf2 : ∀ (c : Nat) (es : List D) (ns ps : List Nat) (j : Nat) (Q : Out (D × D) (D × D) Unit → Prop), (c : Int) + 1 ≤ cm → j < k → RunD b.mm cm j es ns → Q (.nx (vec b.n (b.need (ps ++ (List.replicate (c + 1) ns).flatten)), vec b.n (b.chg (ps ++ (List.replicate (c + 1) ns).flatten)))) →
      Ok (f (.tuple [.str "rep", .int ((c + 1 : Nat) : Int), .tuple es]) (vec b.n (b.need ps), vec b.n (b.chg ps))) Q) :
    ∀ (ps : List Nat) (Q : Out (D × D) Empty Unit → Prop), Q (.nx (vec b.n (b.need (ps ++ ms)), vec b.n (b.chg (ps ++ ms)))) → Ok (forR f ds (vec b.n (b.need ps), vec b.n (b.chg ps))) Q := by
  clear hrec
  induction hr with
  | nil => intro ps Q q; rw [List.append_nil] at q; exact ⟨q⟩
  | @one k m ds ms hm hr ih =>
    intro ps Q q
    unfold forR
    refine ok_step (P := fun o => o = .nx (vec b.n (b.need (ps ++ [m])), vec b.n (b.chg (ps ++ [m])))) (hf1 m ps _ hm rfl) fun o e => ?_
    subst e
    exact ih hf2 (ps ++ [m]) Q (by rw [List.append_assoc]; exact q)
  | @rep k c es ds ns ms hc he hr1 hr2 ih1 ih2 =>
    intro ps Q q
    unfold forR
    refine ok_step (P := fun o => o = .nx (vec b.n (b.need (ps ++ (List.replicate (c + 1) ns).flatten)), vec b.n (b.chg (ps ++ (List.replicate (c + 1) ns).flatten)))) (hf2 c es ns ps k _ hc (Nat.lt_succ_self _) hr1 rfl) fun o e => ?_
    subst e
    exact ih2 hf2 (ps ++ (List.replicate (c + 1) ns).flatten) Q (by rw [List.append_assoc]; exact q)
theorem nac_ok (h : b.Fine most) (hcm : cm < 2 ^ 64) : ∀ (fu k : Nat) (ds : List D) (ms : List Nat), RunD b.mm cm k ds ms → k < fu → Ok (m_need_and_change fu b.d (.tuple ds)) fun d => d = .tuple [vec b.n (b.need ms), vec b.n (b.chg ms)] := by
  intro fu
  induction fu with
  | zero => intro k ds ms hr hk; exact absurd hk (Nat.not_lt_zero _)
  | succ fu ih =>
    intro k ds ms hr hk
    have hn := fin1000 h
    unfold m_need_and_change o_need_and_change
    refine ok_end ?_
    simp only [rb, R.bind_assoc, book_names, len_t, zero_eq h, items_t]
    refine ok_seq ?_
    have hrec : ∀ (j : Nat) (es : List D) (ns : List Nat), j < k → RunD b.mm cm j es ns → Ok (m_need_and_change fu b.d (.tuple es)) fun d => d = .tuple [vec b.n (b.need ns), vec b.n (b.chg ns)] := fun j es ns hj hr => ih j es ns hr (by omega)
    refine nac_loop h hcm hrec hr (fun m ps Q hm q => ?_) (fun c es ns ps j Q hc hj hr' q => ?_) [] _ ?_
    · simp only [ix0, ix1, rb, R.bind_assoc, eq_do, bool_b, if_true, book_moves, move_at hm, move_take, move_high, less_eq hn]
      refine ok_seq ?_
      simp only [okr, rb, less_eq hn, greater_eq hn, plus_eq hn]
      rw [vec_congr (a := fun k => max (b.need ps k) (b.tk m k - b.chg ps k)) (b := b.need (ps ++ [m])) fun k _ => by
          rw [Bk.need_append h.tk0]
          show _ = max _ (max (b.tk m k) (0 - b.gain m k) - b.chg ps k)
          have h1 := h.lo0 m k
          have h2 := h.hi0 m k
          have h3 := h.tk0 m k
          unfold Bk.gain
          congr 2
          omega,
        vec_congr (a := fun k => b.chg ps k + (b.hi m k - b.tk m k)) (b := b.chg (ps ++ [m])) fun k _ => by
          rw [Bk.chg_append]
          show _ = b.chg ps k + (b.gain m k + 0)
          unfold Bk.gain
          omega]
      exact q
    · have hc1 : ((c + 1 : Nat) : Int) - 1 = (c : Int) := by omega
      simp only [ix0, ix1, ix2, rb, R.bind_assoc, eq_rep, bool_b, Bool.false_eq_true, if_false]
      refine ok_seq (ok_step (hrec j es ns hj hr') fun d e => ?_)
      subst e
      simp only [unp2_t, rb, R.bind_assoc, sub_int, hc1, times_eq hn (c := (c : Int)) ⟨by omega, by omega⟩, times_eq hn (c := ((c + 1 : Nat) : Int)) ⟨by omega, by omega⟩, less_eq hn, greater_eq hn, plus_eq hn, okr]
      rw [vec_congr (a := fun k => max (b.need ps k) (max (b.need ns k) (b.need ns k - c * b.chg ns k) - b.chg ps k)) (b := b.need (ps ++ (List.replicate (c + 1) ns).flatten)) fun k _ => by
          rw [Bk.need_append h.tk0, Bk.need_rep h.tk0],
        vec_congr (a := fun k => b.chg ps k + ((c + 1 : Nat) : Int) * b.chg ns k) (b := b.chg (ps ++ (List.replicate (c + 1) ns).flatten)) fun k _ => by
          rw [Bk.chg_append, Bk.chg_rep]]
      exact q
    · simp only [rb, List.nil_append, okr]
end
section
variable {b : Bk} {most cm : Int} {k : Nat} {ds : List D} {ms : List Nat} {s : Nat → Int}
theorem need_ok (h : b.Fine most) (hcm : cm < 2 ^ 64) (hr : RunD b.mm cm k ds ms) (hk : k < 6) : Ok (m_need b.d (.tuple ds)) fun d => d = vec b.n (b.need ms) := by
  unfold m_need o_need
  refine ok_end ?_
  simp only [rb, R.bind_assoc]
  refine ok_step (nac_ok h hcm 6 k ds ms hr hk) fun d e => ?_
  subst e
  simp only [ix0, rb, okr]
theorem change_ok (h : b.Fine most) (hcm : cm < 2 ^ 64) (hr : RunD b.mm cm k ds ms) (hk : k < 6) : Ok (m_change b.d (.tuple ds)) fun d => d = vec b.n (b.chg ms) := by
  unfold m_change o_change
  refine ok_end ?_
  simp only [rb, R.bind_assoc]
  refine ok_step (nac_ok h hcm 6 k ds ms hr hk) fun d e => ?_
  subst e
  simp only [ix1, rb, okr]
end
/-! Numbers and runs as such. -/
theorem isi_ii {i : Int} : isiR "int" (.int i) = R.ret (.bool true) := Eq.trans rfl rfl
theorem isi_ib {i : Int} : isiR "bool" (.int i) = R.ret (.bool false) := Eq.trans rfl rfl
theorem isi_tt {xs : List D} : isiR "tuple" (.tuple xs) = R.ret (.bool true) := Eq.trans rfl rfl
theorem isi_ss {x : Str} : isiR "str" (.str x) = R.ret (.bool true) := Eq.trans rfl rfl
theorem is_nn : isR .none .none = R.ret (.bool true) := Eq.trans rfl rfl
theorem is_in {i : Int} : isR (.int i) .none = R.ret (.bool false) := Eq.trans rfl rfl
theorem number_ok {i lo : Int} : Ok (m_is_number (.int i) (.int lo) .none) fun d => d = .bool (decide (lo ≤ i)) := by
  unfold m_is_number o_is_number
  refine ok_end ?_
  simp only [rb, R.bind_assoc, isi_ii, isi_ib, bool_b, Bool.not_true, Bool.false_eq_true, if_false, lt_int, is_nn, if_true]
  by_cases h : i < lo
  · simp only [h, decide_true, if_true]
    refine ok_up ?_
    simp only [okr]
    rw [decide_eq_false (by omega)]
  · simp only [h, decide_false, Bool.false_eq_true, if_false, okr]
    rw [decide_eq_true (by omega)]
theorem number_ok2 {i lo hi : Int} : Ok (m_is_number (.int i) (.int lo) (.int hi)) fun d => d = .bool (decide (lo ≤ i ∧ i ≤ hi)) := by
  unfold m_is_number o_is_number
  refine ok_end ?_
  simp only [rb, R.bind_assoc, isi_ii, isi_ib, bool_b, Bool.not_true, Bool.false_eq_true, if_false, lt_int, is_in, le_int]
  by_cases h : i < lo
  · simp only [h, decide_true, if_true]
    refine ok_up ?_
    simp only [okr]
    rw [decide_eq_false (by omega)]
  · simp only [h, decide_false, Bool.false_eq_true, if_false, okr]
    congr 1
    exact decide_eq_decide.mpr ⟨fun z => ⟨by omega, z⟩, fun z => z.2⟩
/-! Runs are runs. -/
theorem eq_do_rep : eqR (.str "do") (.str "rep") = R.ret (.bool false) := eq_no (k := 0) (by unfold Pl; decide +kernel) (by unfold Pl; decide +kernel) (by decide) (fun h => by injection h with h; revert h; decide)
theorem eq_rep_rep : eqR (.str "rep") (.str "rep") = R.ret (.bool true) := eq_yes (k := 0) (by unfold Pl; decide +kernel) (by decide)
theorem ne_rep_rep : neR (.str "rep") (.str "rep") = R.ret (.bool false) := ne_no (k := 0) (by unfold Pl; decide +kernel) (by decide)
theorem steps_ok {b : Bk} {cm : Int} : ∀ (fu k : Nat) (ds : List D) (ms : List Nat) (nest : Int), RunD b.mm cm k ds ms → k < fu → (k : Int) < nest → k ≤ 20 → ds.length ≤ 1000 →
    Ok (m_are_steps fu b.d (.tuple ds) (.int nest)) fun d => d = .bool true := by
  intro fu
  induction fu with
  | zero => intro k ds ms nest _ hk; exact absurd hk (Nat.not_lt_zero _)
  | succ fu ih =>
    intro k ds ms nest hr hk hn hk20 hl
    unfold m_are_steps o_are_steps
    refine ok_end ?_
    simp only [rb, R.bind_assoc, isi_tt, bool_b, Bool.not_true, Bool.false_eq_true, if_false, items_t]
    refine ok_step (comp_all (P := fun y => ∃ z, y = PyData.bool z ∧ z = true) (Q := fun ys => ∃ zs : List Bool, ys = zs.map PyData.bool ∧ ∀ z ∈ zs, z = true) (fun d hd => ?_) (le_size hl) fun ys _ hy => all_map hy) fun ys hys => ?_
    · obtain ⟨i, hi, e⟩ := List.mem_iff_getElem.mp hd
      obtain ⟨m1, m2, _, _, h⟩ := hr.at (i := i) (d := d) (by rw [List.getElem?_eq_getElem hi, e])
      unfold m_is_step o_is_step
      refine ok_end ?_
      rcases h with ⟨m, hm, ed, em⟩ | ⟨k', c', es, ns, hkk, hc', he, r3, ed, em⟩
      · subst ed
        simp only [rb, R.bind_assoc, isi_tt, bool_b, Bool.not_true, Bool.false_eq_true, if_false, len_t, List.length_cons, List.length_nil, eq_int, ix0, ix1, isi_ss, eq_do, if_true, book_moves, b.moves_length, sub_int]
        simp only [show decide (((0 + 1 + 1 : Nat) : Int) = 0) = false by decide, show decide (((0 + 1 + 1 : Nat) : Int) = 2) = true by decide, Bool.false_eq_true, if_false, if_true, rb, R.bind_assoc, bool_b]
        refine ok_up ?_
        refine ok_step number_ok2 fun d e => ?_
        subst e
        simp only [okr]
        exact ⟨_, rfl, decide_eq_true (by omega)⟩
      · subst ed
        simp only [rb, R.bind_assoc, isi_tt, bool_b, Bool.not_true, Bool.false_eq_true, if_false, len_t, List.length_cons, List.length_nil, eq_int, ne_int, ix0, ix1, ix2, isi_ss, eq_rep, ne_rep_rep]
        simp only [show decide (((0 + 1 + 1 + 1 : Nat) : Int) = 0) = false by decide, show decide (((0 + 1 + 1 + 1 : Nat) : Int) = 3) = true by decide, Bool.not_true, Bool.false_eq_true, if_false, rb, R.bind_assoc, bool_b]
        refine ok_step number_ok fun d e => ?_
        subst e
        rw [decide_eq_true (show (1 : Int) ≤ ((c' + 1 : Nat) : Int) by omega)]
        have hg : (1 : Int) < nest := by omega
        simp only [rb, bool_b, Bool.not_true, Bool.false_eq_true, if_false, gt_int, hg, decide_true, if_true]
        rw [ne_yes (x := .tuple es) (y := .tuple []) r3.pl (by unfold Pl; simp) (by omega) (fun z => he.1 (by injection z))]
        simp only [rb, bool_b, if_true]
        refine ok_step (ih k' es ns (nest - 1) r3 (by omega) (by omega) (by omega) he.2) fun d e => ?_
        subst e
        simp only [okr]
        exact ⟨_, rfl, rfl⟩
    · obtain ⟨zs, rfl, hz⟩ := hys
      rw [all_bools]
      simp only [rb, okr]
      congr 1
      exact List.all_eq_true.mpr hz
theorem is_run_ok {b : Bk} {cm : Int} {k : Nat} {ds : List D} {ms : List Nat} (hr : RunD b.mm cm k ds ms) (hk : k < 10) (hl : ds.length ≤ 1000) : Ok (m_is_run b.d (.tuple ds)) fun d => d = .bool true := by
  unfold m_is_run o_is_run
  refine ok_end ?_
  simp only [rb, R.bind_assoc]
  refine ok_step (steps_ok 10 k ds ms 30 hr hk (by omega) (by omega) hl) fun d e => ?_
  subst e
  simp only [okr]
/-! Draws from a box; lists that are written over. -/
theorem drawb_pos {n : Int} (h : 0 < n) (h2 : n < 1073741824) : Ok (drawB (.int n)) fun d => ∃ i : Int, 0 ≤ i ∧ i < n ∧ d = .int i := by
  have hc : 0 < n ∧ n.natAbs < fdLine := ⟨h, fd_small (by omega)⟩
  simp only [drawB, hc, and_self, if_true]
  exact ⟨fun i h0 h1 => ⟨i, h0, h1, rfl⟩⟩
theorem drawb_lit {n : Int} {k : Nat} (h : n = (k : Int)) (hk : 0 < k) (h2 : n < 1073741824) : Ok (drawB (.int n)) fun d => ∃ i : Nat, i < k ∧ d = .int (i : Int) :=
  ok_mono (drawb_pos (by omega) h2) fun d e => by
    obtain ⟨i, h0, h1, rfl⟩ := e
    exact ⟨i.toNat, by omega, by congr 1; omega⟩
theorem rep_ok {d : D} {k : Nat} (hk : k ≤ 1000) : repR (.list [d]) (.int (k : Int)) = R.ret (List.replicate k d) := by
  have hz : (1000 : Nat) ≤ sizeLine := le_size (Nat.le_refl _)
  have h1 : -(2 ^ 63) ≤ (k : Int) ∧ (k : Int) < 2 ^ 63 ∧ [d].length * ((k : Int)).toNat ≤ sizeLine := ⟨by omega, by omega, by
    rw [Int.toNat_natCast, List.length_singleton, Nat.one_mul]
    omega⟩
  simp only [repR]
  rw [if_pos h1, Int.toNat_natCast]
  congr 1
  have key : ∀ m : Nat, (List.replicate m [d]).flatten = List.replicate m d := by
    intro m
    induction m with
    | zero => rfl
    | succ m ih => rw [List.replicate_succ, List.flatten_cons, List.replicate_succ, ih]; rfl
  exact key k
theorem rep_vec {k : Nat} {x : Int} : List.replicate k (PyData.int x) = vecL k fun _ => x := by
  unfold vecL
  apply List.ext_getElem?
  intro i
  rw [List.getElem?_replicate, List.getElem?_map]
  by_cases hi : i < k
  · rw [if_pos hi, List.getElem?_range hi]; rfl
  · rw [if_neg hi, List.getElem?_eq_none (by rw [List.length_range]; omega)]; rfl
theorem put_ok {xs : List D} {j : Nat} {d : D} (h : j < xs.length) : putIx xs (.int (j : Int)) d = R.ret (xs.set j d) := by
  have e : L2.ixN xs.length (j : Int) = some j := by
    unfold L2.ixN
    rw [if_pos (Int.natCast_nonneg j), if_pos (by omega)]
    rfl
  simp only [putIx, e]
theorem put_vec {n j : Nat} {f : Nat → Int} {x : Int} (h : j < n) : putIx (vecL n f) (.int (j : Int)) (.int x) = R.ret (vecL n fun i => if i = j then x else f i) := by
  rw [put_ok (by rw [vecL_length]; exact h)]
  congr 1
  apply List.ext_getElem?
  intro i
  by_cases hi : i < n
  · rw [vecL_get hi]
    by_cases e : i = j
    · subst e
      rw [List.getElem?_set_self (by rw [vecL_length]; exact h), if_pos rfl]
    · rw [List.getElem?_set_ne (Ne.symm e), vecL_get hi, if_neg e]
  · rw [List.getElem?_eq_none (by rw [List.length_set, vecL_length]; omega), List.getElem?_eq_none (by rw [vecL_length]; omega)]
theorem neg1_ok : negR (.int 1) = R.ret (.int (-1)) := Eq.trans rfl rfl
theorem app_okb {xs : List D} {d : D} (h : xs.length < 100000) : appR xs d = R.ret (xs ++ [d]) := by
  unfold appR
  rw [if_pos (Nat.lt_trans h (by show 100000 < 2 ^ 24; decide))]
theorem rng_lit {n : Int} {k : Nat} (h : n = (k : Int)) (hk : k ≤ 1000) : rng1R (.int n) = R.ret (rangeL 0 k) := by rw [h]; exact rng_nat (small62 hk)
section
theorem bseqP {S S' B T : Type} {P : S → Prop} {r : R (Out S B T)} {f : S → R (Out S' B T)} {Q : Out S' B T → Prop} (h : Ok r fun o => match o with
    | .nx s => P s
    | .bk b => Q (.bk b)
    | .ct b => Q (.ct b)
    | .rt d t => Q (.rt d t)) (k : ∀ s, P s → Ok (f s) Q) : Ok (seqR r f) Q := by
  refine ok_seq (ok_mono h fun o ho => ?_)
  cases o with
  | nx s => exact k s ho
  | _ => exact ho
theorem ix_strs {ns : List Str} {i : Nat} (h : i < ns.length) : ixR (.list (ns.map PyData.str)) (.int (i : Int)) = R.ret (.str ns[i]) := ix_lst (by rw [List.getElem?_map, List.getElem?_eq_getElem h]; rfl)
theorem lst_vec {n : Nat} {f : Nat → Int} : tupleR (.list (vecL n f)) = R.ret (vec n f) := tuple_l
theorem allb_range {n : Nat} (p : Nat → Prop) [DecidablePred p] : allR (.list ((List.range n).map fun k => PyData.bool (decide (p k)))) = R.ret (.bool (decide (∀ k, k < n → p k))) := by
  have e : (List.range n).map (fun k => PyData.bool (decide (p k))) = ((List.range n).map fun k => decide (p k)).map PyData.bool := by rw [List.map_map]; rfl
  rw [e, all_bools]
  congr 2
  apply Bool.eq_iff_iff.mpr
  rw [List.all_eq_true, decide_eq_true_iff]
  constructor
  · intro h k hk
    exact of_decide_eq_true (h _ (List.mem_map.mpr ⟨k, List.mem_range.mpr hk, rfl⟩))
  · intro h x hx
    obtain ⟨k, hk, rfl⟩ := List.mem_map.mp hx
    exact decide_eq_true (h k (List.mem_range.mp hk))
theorem gen_any {n : Nat} {f : D → R D} (p : Nat → Prop) [DecidablePred p] (h : ∀ k : Nat, k < n → f (.int (k : Int)) = R.ret (.bool (decide (p k)))) : genR true f (rangeL 0 n) = R.ret (.bool (decide (∃ k, k < n ∧ p k))) := by
  have key : ∀ l : List Nat, (∀ k ∈ l, k < n) → genR true f (l.map fun k : Nat => PyData.int (0 + (k : Int))) = R.ret (.bool (decide (∃ k, k ∈ l ∧ p k))) := by
    intro l
    induction l with
    | nil => intro _; simp [genR]
    | cons k l ih =>
      intro hl
      rw [List.map_cons]
      unfold genR
      rw [Int.zero_add, h k (hl k List.mem_cons_self)]
      simp only [nx_ret, rb]
      by_cases hp : p k
      · simp only [hp, decide_true, if_true]
        congr 2
        exact (decide_eq_true ⟨k, List.mem_cons_self, hp⟩).symm
      · simp only [hp, decide_false, Bool.false_eq_true, if_false]
        rw [ih fun k hk => hl k (List.mem_cons_of_mem _ hk)]
        congr 2
        apply decide_eq_decide.mpr
        constructor
        · rintro ⟨j, hj, q⟩
          exact ⟨j, List.mem_cons_of_mem _ hj, q⟩
        · rintro ⟨j, hj, q⟩
          rcases List.mem_cons.mp hj with rfl | hj
          · exact absurd q hp
          · exact ⟨j, hj, q⟩
  unfold rangeL
  rw [key _ fun k hk => List.mem_range.mp hk]
  congr 2
  exact decide_eq_decide.mpr ⟨fun ⟨k, h1, h2⟩ => ⟨k, List.mem_range.mp h1, h2⟩, fun ⟨k, h1, h2⟩ => ⟨k, List.mem_range.mpr h1, h2⟩⟩
/-- all(..) over data -/
theorem gen_allL {α : Type} {f : α → R D} {p : α → Prop} : ∀ {ds : List α}, (∀ d ∈ ds, Ok (f d) fun y => y = .bool true) → Ok (genR false f ds) fun y => y = .bool true
  | [], _ => ⟨rfl⟩
  | d :: ds, h => by
    unfold genR
    refine ok_step (P := fun y => y = .bool true) ⟨nx_ok (h d List.mem_cons_self)⟩ fun y e => ?_
    subst e
    simp only [Bool.true_eq_false, if_false]
    exact gen_allL (p := p) fun d hd => h d (List.mem_cons_of_mem _ hd)
end
/-! Plans: labels, no program in sight. -/
section
variable {b : Bk} {most cm : Int}
structure Part where
  w : Bool
  ds : List D
  ns : List Nat
def wordS (w : Bool) : Str := if w = true then "pump" else "run"
def Part.d (p : Part) : D := .tuple [.str (wordS p.w), .tuple p.ds]
structure PartOk (b : Bk) (cm : Int) (p : Part) : Prop where
  r : RunD b.mm cm 1 p.ds p.ns
  ne : p.ds ≠ []
  l : p.ds.length ≤ 3
  n : p.ns.length ≤ 45
def nxt (b : Bk) (w : Bool) (ns : List Nat) (L : Nat → Int) : Option (Nat → Int) :=
  if Cov b.n L (b.need ns) then
    (if w = true then (if ∃ k, k < b.n ∧ (L k ≠ -1 ∧ b.chg ns k < 0) then none else some fun k => if 0 < b.chg ns k then -1 else L k)
     else some fun k => if L k = -1 then -1 else L k + b.chg ns k)
  else none
def labD (n : Nat) : Option (Nat → Int) → D
  | none => .none
  | some f => vec n f
def Lab (n : Nat) (L : Nat → Int) : Prop := ∀ k, k < n → L k = -1 ∨ 0 ≤ L k
theorem nxt_cov {w : Bool} {ns : List Nat} {L L' : Nat → Int} (e : nxt b w ns L = some L') : Cov b.n L (b.need ns) := by
  unfold nxt at e
  by_cases c : Cov b.n L (b.need ns)
  · exact c
  · rw [if_neg c] at e; cases e
theorem nxt_run {ns : List Nat} {L L' : Nat → Int} (e : nxt b false ns L = some L') (k : Nat) : L' k = if L k = -1 then -1 else L k + b.chg ns k := by
  have c := nxt_cov e
  unfold nxt at e
  rw [if_pos c, if_neg (by decide)] at e
  cases e
  rfl
theorem nxt_pump {ns : List Nat} {L L' : Nat → Int} (e : nxt b true ns L = some L') : (∀ k, L' k = if 0 < b.chg ns k then -1 else L k) ∧ ∀ k, k < b.n → L k ≠ -1 → 0 ≤ b.chg ns k := by
  have c := nxt_cov e
  unfold nxt at e
  rw [if_pos c, if_pos rfl] at e
  by_cases q : ∃ k, k < b.n ∧ (L k ≠ -1 ∧ b.chg ns k < 0)
  · rw [if_pos q] at e; cases e
  · rw [if_neg q] at e
    cases e
    exact ⟨fun _ => rfl, fun k hk hl => by
      by_cases z : 0 ≤ b.chg ns k
      · exact z
      · exact absurd ⟨k, hk, hl, by omega⟩ q⟩
theorem cov_le {n : Nat} {L c : Nat → Int} (h : Cov n L c) {k : Nat} (hk : k < n) (hl : L k ≠ -1) : c k ≤ L k := by
  rcases h k hk with z | z
  · exact absurd z hl
  · exact z.2
theorem need_chg0 (h : b.Fine most) : ∀ (ms : List Nat) (k : Nat), 0 ≤ b.need ms k + b.chg ms k
  | [], k => by simp [Bk.need, Bk.chg]
  | m :: ms, k => by
    have ih := need_chg0 h ms k
    rw [Bk.need, Bk.chg]
    have h2 := h.lo0 m k
    have h3 := h.hi0 m k
    unfold Bk.gain
    omega
theorem nxt_lab (h : b.Fine most) {w : Bool} {ns : List Nat} {L L' : Nat → Int} (e : nxt b w ns L = some L') (hl : Lab b.n L) : Lab b.n L' := fun k hk => by
  cases w with
  | false =>
    rw [nxt_run e k]
    by_cases q : L k = -1
    · rw [if_pos q]; exact .inl rfl
    · rw [if_neg q]
      have := cov_le (nxt_cov e) hk q
      have := need_chg0 h ns k
      exact .inr (by omega)
  | true =>
    rw [(nxt_pump e).1 k]
    by_cases q : 0 < b.chg ns k
    · rw [if_pos q]; exact .inl rfl
    · rw [if_neg q]; exact hl k hk
/-- what a run is to bring -/
def Good (b : Bk) (num : Int) (Lp L w : Nat → Int) (MS : List Nat) : Prop := ∀ S : Nat → Int, (∀ k, k < b.n → if L k = -1 then w k ≤ S k else S k = L k) →
  ∀ k, k < b.n → b.need MS k ≤ S k ∧ (if Lp k = -1 then num ≤ S k + b.chg MS k else S k + b.chg MS k = Lp k)
theorem good_nil {num : Int} {Lp : Nat → Int} (h0 : 0 ≤ num) (hl : Lab b.n Lp) : Good b num Lp Lp (fun k => if Lp k = -1 then num else 0) [] := fun S hS k hk => by
  have := hS k hk
  rw [Bk.need, Bk.chg]
  by_cases q : Lp k = -1
  · simp only [if_pos q] at this
    rw [if_pos q]
    omega
  · rw [if_neg q] at this ⊢
    rcases hl k hk with z | z
    · exact absurd z q
    · omega
theorem good_step (h : b.Fine most) {wd : Bool} {ns MS : List Nat} {num : Int} {Lp L L' w w' : Nat → Int} (e : nxt b wd ns L = some L') {c : Nat} (hr : wd = false → c = 0)
    (hp : wd = true → ∀ k, k < b.n → L k ≠ -1 → L' k = -1 → w k ≤ L k + ((c + 1 : Nat) : Int) * b.chg ns k) (g : Good b num Lp L' w MS)
    (hw : ∀ k, k < b.n → L k = -1 → b.need (List.replicate (c + 1) ns).flatten k ≤ w' k ∧ w k - b.chg (List.replicate (c + 1) ns).flatten k ≤ w' k) :
    Good b num Lp L w' ((List.replicate (c + 1) ns).flatten ++ MS) := fun S hS k hk => by
  have cv := nxt_cov e
  have key : ∀ k, k < b.n → b.need (List.replicate (c + 1) ns).flatten k ≤ S k ∧ if L' k = -1 then w k ≤ S k + b.chg (List.replicate (c + 1) ns).flatten k else S k + b.chg (List.replicate (c + 1) ns).flatten k = L' k := fun k hk => by
    have hs := hS k hk
    by_cases q : L k = -1
    · rw [if_pos q] at hs
      obtain ⟨w1, w2⟩ := hw k hk q
      have e' : L' k = -1 := by
        cases wd with
        | false => rw [nxt_run e k, if_pos q]
        | true =>
          rw [(nxt_pump e).1 k]
          split
          · rfl
          · exact q
      rw [if_pos e']
      exact ⟨by omega, by omega⟩
    · rw [if_neg q] at hs
      have hle := cov_le cv hk q
      cases wd with
      | false =>
        have hc := hr rfl
        subst hc
        have e1 : (List.replicate (0 + 1) ns).flatten = ns := by simp
        rw [e1]
        have h0 := need_chg0 h ns k
        have ne : L' k ≠ -1 := by
          rw [nxt_run e k, if_neg q]
          omega
        rw [if_neg ne, nxt_run e k, if_neg q]
        exact ⟨by omega, by omega⟩
      | true =>
        obtain ⟨p1, p2⟩ := nxt_pump e
        have h0 := p2 k hk q
        have hz : 0 ≤ (c : Int) * b.chg ns k := Int.mul_nonneg (by omega) h0
        rw [Bk.need_rep h.tk0, Bk.chg_rep]
        refine ⟨by omega, ?_⟩
        by_cases q2 : 0 < b.chg ns k
        · have e' : L' k = -1 := by rw [p1 k, if_pos q2]
          rw [if_pos e']
          have := hp rfl k hk q e'
          omega
        · have z : b.chg ns k = 0 := by omega
          have e' : L' k = L k := by rw [p1 k, if_neg q2]
          rw [e', if_neg q, z, Int.mul_zero]
          omega
  have gg := g (fun k => S k + b.chg (List.replicate (c + 1) ns).flatten k) (fun k hk => (key k hk).2) k hk
  rw [Bk.need_append h.tk0, Bk.chg_append]
  obtain ⟨g1, g2⟩ := gg
  refine ⟨by have := (key k hk).1; have g1 : b.need MS k ≤ S k + b.chg (List.replicate (c + 1) ns).flatten k := g1; omega, ?_⟩
  rw [← Int.add_assoc]
  exact g2
/-- sizes -/
theorem need_sz (h : b.Fine most) (h0 : 0 ≤ most) : ∀ (ms : List Nat) (k : Nat), b.need ms k ≤ most * ms.length
  | [], k => by simp [Bk.need]
  | m :: ms, k => by
    have ih := need_sz h h0 ms k
    have h1 := h.tk0 m k
    have h2 := h.tk1 m k
    have h3 := h.lo0 m k
    have h4 := h.hi0 m k
    rw [Bk.need, List.length_cons, Int.natCast_add, Int.mul_add]
    simp only [Int.cast_ofNat_Int, Int.mul_one]
    unfold Bk.gain
    have : 0 ≤ most * (ms.length : Int) := Int.mul_nonneg h0 (by omega)
    omega
theorem rep_sz (h : b.Fine 3) {ns : List Nat} (hl : ns.length ≤ 45) (c : Nat) (k : Nat) : b.need (List.replicate (c + 1) ns).flatten k ≤ 135 * ((c + 1 : Nat) : Int) ∧ -(135 * ((c + 1 : Nat) : Int)) ≤ b.chg (List.replicate (c + 1) ns).flatten k := by
  have h1 := need_sz h (by decide) ns k
  obtain ⟨h2, h3⟩ := Bk.chg_size h (by decide) ns k
  have hb : -135 ≤ b.chg ns k := by omega
  have hn : b.need ns k ≤ 135 := by omega
  have hz : (c : Int) * (-135) ≤ (c : Int) * b.chg ns k := Int.mul_le_mul_of_nonneg_left hb (by omega)
  rw [Bk.need_rep h.tk0, Bk.chg_rep, Int.natCast_add, Int.add_mul]
  simp only [Int.cast_ofNat_Int, Int.one_mul]
  omega
/-- enough rounds -/
theorem rounds {miss a T W : Int} (ha : 0 < a) (hm : miss ≤ W) (hT : 1 ≤ T) (hW : T ≤ max 1 W) : let q := (miss + a - 1).fdiv a; 1 ≤ max T q ∧ max T q ≤ max 1 W ∧ miss ≤ max T q * a := by
  intro q
  have e : q = (miss + a - 1) / a := Int.fdiv_eq_ediv_of_nonneg _ (Int.le_of_lt ha)
  have h1 : miss + a - 1 < (q + 1) * a := by rw [e]; exact Int.lt_ediv_add_one_mul_self _ ha
  have h2 : miss ≤ q * a := by rw [Int.add_mul, Int.one_mul] at h1; omega
  have h3 : q ≤ max 1 W := by
    by_cases hp : 0 < miss
    · have : q < miss + 1 := by
        rw [e]
        refine Int.ediv_lt_of_lt_mul ha ?_
        rw [Int.add_mul, Int.one_mul]
        have : miss * 1 ≤ miss * a := Int.mul_le_mul_of_nonneg_left (by omega) (by omega)
        omega
      omega
    · have : q < 1 := by
        rw [e]
        refine Int.ediv_lt_of_lt_mul ha ?_
        omega
      omega
  refine ⟨by omega, by omega, ?_⟩
  have : q * a ≤ max T q * a := Int.mul_le_mul_of_nonneg_right (by omega) (by omega)
  omega
end
/-! Plans: what the defs come to. -/
section
variable {b : Bk} {most cm : Int}
theorem eq_run {w : Bool} : eqR (.str (wordS w)) (.str "run") = R.ret (.bool (!w)) := by
  cases w with
  | false => exact eq_yes (k := 0) (by unfold Pl; decide +kernel) (by decide)
  | true => exact eq_no (k := 0) (by unfold Pl; decide +kernel) (by unfold Pl; decide +kernel) (by decide) (fun h => by injection h with h; revert h; decide)
theorem eq_pump {w : Bool} : eqR (.str (wordS w)) (.str "pump") = R.ret (.bool w) := by
  cases w with
  | true => exact eq_yes (k := 0) (by unfold Pl; decide +kernel) (by decide)
  | false => exact eq_no (k := 0) (by unfold Pl; decide +kernel) (by unfold Pl; decide +kernel) (by decide) (fun h => by injection h with h; revert h; decide)
theorem nin_word {w : Bool} : ninR (.str (wordS w)) (.tuple [.str "run", .str "pump"]) = R.ret (.bool false) := by
  cases w <;> rfl
theorem moved_ok {n : Nat} (hn : n ≤ 1000) {L a : Nat → Int} : m_moved (vec n L) (vec n a) = R.ret (vec n fun k => if L k = -1 then -1 else L k + a k) := by
  unfold m_moved o_moved endR0
  simp only [rb, R.bind_assoc, len_vec, rng_nat (small62 hn)]
  rw [comp_range (g := fun k => PyData.int (if L k = -1 then -1 else L k + a k)) (le_size hn) fun k hk => by
    simp only [rb, ix_vec hk, eq_int, bool_b]
    by_cases q : L k = -1
    · simp only [q, decide_true, if_true]
    · simp only [q, decide_false, Bool.false_eq_true, if_false, rb, add_int]]
  rfl
theorem cov_dec {n : Nat} {L c : Nat → Int} : decide (Cov n L c) = true ↔ Cov n L c := decide_eq_true_iff
theorem behind_ok (h : b.Fine most) (hcm : cm < 2 ^ 64) {k : Nat} {ds : List D} {ns : List Nat} {L : Nat → Int} (hr : RunD b.mm cm k ds ns) (hk : k < 6) : Ok (m_behind b.d (vec b.n L) (.tuple ds)) fun d => d = labD b.n (nxt b false ns L) := by
  unfold m_behind o_behind
  refine ok_end ?_
  simp only [rb, R.bind_assoc]
  refine ok_step (need_ok h hcm hr hk) fun d e => ?_
  subst e
  refine ok_step (covers_ok (fin1000 h)) fun d e => ?_
  subst e
  simp only [bool_b, rb]
  unfold nxt
  by_cases c : Cov b.n L (b.need ns)
  · simp only [c, decide_true, Bool.not_true, Bool.false_eq_true, if_false, if_true]
    refine ok_step (change_ok h hcm hr hk) fun d e => ?_
    subst e
    rw [moved_ok (fin1000 h)]
    simp only [rb, okr]
    rfl
  · simp only [c, decide_false, Bool.not_false, if_true, if_false]
    exact ok_up (ok_ret rfl)
theorem pumped_ok (h : b.Fine most) (hcm : cm < 2 ^ 64) {k : Nat} {ds : List D} {ns : List Nat} {L : Nat → Int} (hr : RunD b.mm cm k ds ns) (hk : k < 6) : Ok (m_pumped b.d (vec b.n L) (.tuple ds)) fun d => d = labD b.n (nxt b true ns L) := by
  have hn := fin1000 h
  unfold m_pumped o_pumped
  refine ok_end ?_
  simp only [rb, R.bind_assoc]
  refine ok_step (change_ok h hcm hr hk) fun d e => ?_
  subst e
  refine ok_step (need_ok h hcm hr hk) fun d e => ?_
  subst e
  refine ok_step (covers_ok hn) fun d e => ?_
  subst e
  simp only [bool_b, rb]
  unfold nxt
  by_cases c : Cov b.n L (b.need ns)
  · simp only [c, decide_true, Bool.not_true, Bool.false_eq_true, if_false, if_true, len_vec, rb, rng_nat (small62 hn)]
    rw [gen_any (fun k => L k ≠ -1 ∧ b.chg ns k < 0) fun k hk => by
      simp only [rb, ix_vec hk, ne_int, bool_b, lt_int]
      by_cases q : L k = -1
      · simp only [q, decide_true, Bool.not_true, Bool.false_eq_true, if_false, ne_eq, not_true_eq_false, false_and, decide_false]
      · simp only [q, decide_false, Bool.not_false, if_true, rb, ne_eq, not_false_eq_true, true_and]]
    simp only [rb, bool_b]
    by_cases q : ∃ k, k < b.n ∧ (L k ≠ -1 ∧ b.chg ns k < 0)
    · simp only [q, decide_true, if_true]
      exact ok_up (ok_ret rfl)
    · simp only [q, decide_false, Bool.false_eq_true, if_false]
      rw [comp_range (g := fun k => PyData.int (if 0 < b.chg ns k then -1 else L k)) (le_size hn) fun k hk => by
        simp only [rb, ix_vec hk, gt_int, bool_b]
        by_cases q : 0 < b.chg ns k
        · simp only [q, decide_true, if_true]
        · simp only [q, decide_false, Bool.false_eq_true, if_false]]
      simp only [rb, tuple_l]
      exact ok_ret rfl
  · simp only [c, decide_false, Bool.not_false, if_true, if_false]
    exact ok_up (ok_ret rfl)
theorem range_get {α : Type} {n j : Nat} {f : Nat → α} {d : α} (h : ((List.range n).map f)[j]? = some d) : j < n ∧ d = f j := by
  rw [List.getElem?_map] at h
  by_cases hj : j < n
  · rw [List.getElem?_range hj] at h
    cases h
    exact ⟨hj, rfl⟩
  · rw [List.getElem?_eq_none (by rw [List.length_range]; omega)] at h
    cases h
theorem map_get {α : Type} {n j : Nat} {f : Nat → α} (h : j < n) : ((List.range n).map f)[j]? = some (f j) := by
  rw [List.getElem?_map, List.getElem?_range h]; rfl
theorem ix_last {xs : List D} {x : D} : ixR (.list (xs ++ [x])) (.int (-1)) = R.ret x := by
  show optR (L2.atI (xs ++ [x]) (-1)) = _
  have e : L2.ixN (xs ++ [x]).length (-1) = some xs.length := by
    unfold L2.ixN
    rw [if_neg (by decide), if_pos (by rw [List.length_append, List.length_singleton]; omega)]
    congr 1
    rw [List.length_append, List.length_singleton]
    omega
  unfold L2.atI
  rw [e]
  simp
  rfl
theorem is_plan_ok {p : Nat} (hp : p ≤ 100) {P : Nat → Part} (hP : ∀ i, i < p → PartOk b cm (P i)) : Ok (m_is_plan b.d (.tuple ((List.range p).map fun i => (P i).d))) fun d => d = .bool true := by
  unfold m_is_plan o_is_plan
  refine ok_end ?_
  simp only [rb, R.bind_assoc, isi_tt, bool_b, Bool.not_true, Bool.false_eq_true, if_false, items_t]
  refine ok_seq (ok_for0 (fun _ _ => True) trivial (fun j d s e _ => ?_) fun s _ => ?_)
  · obtain ⟨hj, rfl⟩ := range_get e
    have o := hP j hj
    unfold Part.d
    simp only [isi_tt, rb, bool_b, Bool.not_true, Bool.false_eq_true, if_false, len_t, List.length_cons, List.length_nil, ne_int, show (((0 + 1 + 1 : Nat) : Int) = 2) from rfl, decide_true, ix0, nin_word, ix1]
    refine ok_step (is_run_ok o.r (by decide) (by have := o.l; omega)) fun d e => ?_
    subst e
    have hz : ¬ ((P j).ds.length : Int) = 0 := by
      have := List.length_pos_iff.mpr o.ne
      omega
    simp only [bool_b, rb, Bool.not_true, Bool.false_eq_true, if_false, eq_int, hz, decide_false, okr]
  · simp only [okr]
/-- labels along a plan -/
def Walks (b : Bk) (p : Nat) (P : Nat → Part) (L : Nat → Nat → Int) : Prop := ∀ i, i < p → nxt b (P i).w (P i).ns (L i) = some (L (i + 1))
end
/-! labels, with errors; the end of a plan. -/
section
variable {b : Bk} {most cm : Int}
/-- labels up to i -/
def Ways (b : Bk) (p : Nat) (P : Nat → Part) (L0 : Nat → Int) (L : Nat → Nat → Int) : Prop := L 0 = L0 ∧ Walks b p P L
theorem Ways.snoc {p : Nat} {P : Nat → Part} {L0 Ln : Nat → Int} {L : Nat → Nat → Int} (h : Ways b p P L0 L) (e : nxt b (P p).w (P p).ns (L p) = some Ln) : Ways b (p + 1) P L0 fun i => if i = p + 1 then Ln else L i := by
  refine ⟨?_, fun i hi => ?_⟩
  · show (if 0 = p + 1 then Ln else L 0) = L0
    rw [if_neg (by omega)]
    exact h.1
  · show nxt b (P i).w (P i).ns (if i = p + 1 then Ln else L i) = some (if i + 1 = p + 1 then Ln else L (i + 1))
    by_cases q : i = p
    · subst q
      rw [if_neg (by omega), if_pos rfl]
      exact e
    · rw [if_neg (by omega), if_neg (by omega)]
      exact h.2 i (by omega)
theorem Ways.one {p : Nat} {P : Nat → Part} {L0 : Nat → Int} : ∀ {L L' : Nat → Nat → Int}, Ways b p P L0 L → Ways b p P L0 L' → ∀ i, i ≤ p → L i = L' i := by
  intro L L' h h' i
  induction i with
  | zero => intro _; rw [h.1, h'.1]
  | succ i ih =>
    intro hi
    have e := ih (by omega)
    have e1 := h.2 i (by omega)
    have e2 := h'.2 i (by omega)
    rw [e, e2] at e1
    exact (Option.some.inj e1).symm
def Stuck (b : Bk) (p : Nat) (P : Nat → Part) (L0 : Nat → Int) : Prop := ∃ i L, i < p ∧ Ways b i P L0 L ∧ nxt b (P i).w (P i).ns (L i) = none
theorem Ways.not_stuck {p : Nat} {P : Nat → Part} {L0 : Nat → Int} {L : Nat → Nat → Int} (h : Ways b p P L0 L) (s : Stuck b p P L0) : False := by
  obtain ⟨i, L', hi, w, e⟩ := s
  have e1 := h.2 i hi
  have hw : Ways b i P L0 L := ⟨h.1, fun j hj => h.2 j (by omega)⟩
  rw [hw.one w i (Nat.le_refl _), e] at e1
  cases e1
theorem labelsE (h : b.Fine most) (hcm : cm < 2 ^ 64) {p : Nat} (hp : p ≤ 100) {P : Nat → Part} {L0 : Nat → Int} (hP : ∀ i, i < p → PartOk b cm (P i)) :
    OkE (m_labels b.d (vec b.n L0) (.tuple ((List.range p).map fun i => (P i).d))) (fun d => ∃ L, Ways b p P L0 L ∧ d = .list ((List.range (p + 1)).map fun i => vec b.n (L i))) fun c x => c = 0 ∧ Stuck b p P L0 := by
  unfold m_labels o_labels
  refine oke_end ?_
  refine oke_step (P := fun c => c = false) (oke_nx ?_) fun c e => ?_
  · simp only [rb, R.bind_assoc]
    refine ok_step (is_plan_ok hp hP) fun d e => ?_
    subst e
    simp only [bool_b, rb, Bool.not_true, okr]
  subst e
  simp only [Bool.false_eq_true, if_false]
  refine oke_step (P := fun l => l = [vec b.n L0]) (oke_nx ?_) fun l e => ?_
  · simp only [rb, okr]
  subst e
  refine oke_step (P := fun l => l = (List.range p).map fun i => (P i).d) (oke_nx ?_) fun l e => ?_
  · simp only [rb, items_t, okr]
  subst e
  refine oke_seqP (P := fun s => ∃ L, Ways b p P L0 L ∧ s = (List.range (p + 1)).map fun i => vec b.n (L i)) (oke_for0 (fun i s => i ≤ p ∧ ∃ L, Ways b i P L0 L ∧ s = (List.range (i + 1)).map fun i => vec b.n (L i)) ⟨Nat.zero_le _, fun _ => L0, ⟨rfl, fun i hi => absurd hi (Nat.not_lt_zero _)⟩, rfl⟩ (fun j d s e hi => ?_) fun s hi => ?_) fun s hs => ?_
  · obtain ⟨hj, rfl⟩ := range_get e
    obtain ⟨_, L, w, rfl⟩ := hi
    have o := hP j hj
    have last : ixR (.list ((List.range (j + 1)).map fun i => vec b.n (L i))) (.int (-1)) = R.ret (vec b.n (L j)) := by
      rw [List.range_succ, List.map_append]
      exact ix_last
    unfold Part.d
    rw [unp2_t]
    refine oke_step (P := fun d => d = labD b.n (nxt b (P j).w (P j).ns (L j))) (oke_nx ?_) fun d e => ?_
    · simp only [eq_run, rb, bool_b, R.bind_assoc, neg_int, last]
      cases ew : (P j).w with
      | false =>
        simp only [Bool.not_false, if_true]
        exact behind_ok h hcm o.r (by decide)
      | true =>
        simp only [Bool.not_true, Bool.false_eq_true, if_false]
        exact pumped_ok h hcm o.r (by decide)
    subst e
    cases en : nxt b (P j).w (P j).ns (L j) with
    | none =>
      refine oke_step (P := fun c => c = true) (oke_nx ?_) fun c e => ?_
      · rw [show labD b.n none = PyData.none from rfl]
        simp only [rb]
        rw [show isR PyData.none PyData.none = R.ret (.bool true) from rfl]
        simp only [rb, bool_b, okr]
      subst e
      simp only [if_true]
      exact oke_up (oke_exc ⟨rfl, j, L, hj, w, en⟩)
    | some Ln =>
      refine oke_step (P := fun c => c = false) (oke_nx ?_) fun c e => ?_
      · rw [show labD b.n (some Ln) = vec b.n Ln from rfl]
        simp only [rb]
        rw [show isR (vec b.n Ln) PyData.none = R.ret (.bool false) from rfl]
        simp only [rb, bool_b, okr]
      subst e
      simp only [Bool.false_eq_true, if_false]
      refine oke_step (P := fun d => d = vec b.n Ln) (oke_nx ?_) fun d e => ?_
      · simp only [okr]
        rfl
      subst e
      rw [app_okb (by rw [List.length_map, List.length_range]; omega), rb]
      refine oke_ret ⟨by omega, _, w.snoc en, ?_⟩
      rw [List.range_succ (n := j + 1), List.map_append]
      congr 1
      · exact List.map_congr_left fun i hi => by
          have : i ≠ j + 1 := Nat.ne_of_lt (List.mem_range.mp hi)
          simp only [this, if_false]
      · simp only [List.map_cons, List.map_nil, if_true]
  · obtain ⟨_, L, w, rfl⟩ := hi
    rw [List.length_map, List.length_range] at w ⊢
    exact ⟨L, w, rfl⟩
  · obtain ⟨L, w, rfl⟩ := hs
    exact oke_ret ⟨L, w, rfl⟩
theorem end_of_ok (h : b.Fine most) (hcm : cm < 2 ^ 64) {p : Nat} (hp : p ≤ 100) {P : Nat → Part} {L0 : Nat → Int} (hP : ∀ i, i < p → PartOk b cm (P i)) :
    Ok (m_end_of b.d (vec b.n L0) (.tuple ((List.range p).map fun i => (P i).d))) fun d => (∃ L, Ways b p P L0 L ∧ d = vec b.n (L p)) ∨ (d = .none ∧ Stuck b p P L0) := by
  unfold m_end_of o_end_of
  refine ok_end ?_
  simp only [rb]
  refine ok_try (labelsE h hcm hp hP) (fun d hd => ?_) fun c x hx => ?_
  · obtain ⟨L, w, rfl⟩ := hd
    have last : ixR (.list ((List.range (p + 1)).map fun i => vec b.n (L i))) (.int (-1)) = R.ret (vec b.n (L p)) := by
      rw [List.range_succ, List.map_append]
      exact ix_last
    simp only [rb, neg_int, last, okr]
    exact .inl ⟨L, w, rfl⟩
  · refine ⟨hx.1, ?_⟩
    unfold upE
    refine ok_ret (.inr ⟨rfl, hx.2⟩)
end
/-! Closed, apart, in order, a report: of one row. -/
section
variable {b : Bk} {most cm : Int}
theorem gen_one {α : Type} {st c : Bool} {f : α → R D} {x : α} (h : Ok (f x) fun y => y = .bool c) : Ok (genR st f [x]) fun y => y = .bool c := by
  unfold genR
  refine ok_step (P := fun y => y = .bool c) ⟨nx_ok h⟩ fun y e => ?_
  subst e
  unfold genR
  show Ok (if c = st then R.ret (PyData.bool st) else R.ret (PyData.bool (!st))) _
  cases c <;> cases st <;> simp [okr]
theorem entries_ok {n : Nat} (hn : n ≤ 1000) {L : Nat → Int} {lo : Int} (hl : ∀ k, k < n → lo ≤ L k) : Ok (m_is_entries (vec n L) (.int (n : Int)) (.int lo) .none) fun d => d = .bool true := by
  unfold m_is_entries o_is_entries
  refine ok_end ?_
  have e1 : isiR "tuple" (vec n L) = R.ret (.bool true) := isi_tt
  simp only [rb, R.bind_assoc, e1, bool_b, Bool.not_true, Bool.false_eq_true, if_false, len_vec, ne_int, decide_true, items_vec]
  refine ok_step (comp_ok (P := fun d y => y = .bool true) (Q := fun ys => ∃ zs : List Bool, ys = zs.map PyData.bool ∧ ∀ z ∈ zs, z = true) (fun d hd => ?_) (by rw [vecL_length, List.length_nil]; exact Nat.le_trans (Nat.le_of_eq (Nat.zero_add n)) (le_size hn)) fun ys hl hy => ?_) fun ys hys => ?_
  · unfold vecL at hd
    obtain ⟨k, hk, rfl⟩ := List.mem_map.mp hd
    refine ok_mono number_ok fun y e => ?_
    rw [e, decide_eq_true (hl k (List.mem_range.mp hk))]
  · refine all_map (P := fun z => z = true) fun y hyy => ?_
    rw [List.nil_append] at hyy
    obtain ⟨i, hi, e⟩ := List.mem_iff_getElem.mp hyy
    have hi2 : i < (vecL n L).length := by omega
    exact ⟨true, hy i _ y (List.getElem?_eq_getElem hi2) (by rw [List.getElem?_eq_getElem hi, e]), rfl⟩
  · obtain ⟨zs, rfl, hz⟩ := hys
    rw [all_bools]
    simp only [rb, okr]
    congr 1
    exact List.all_eq_true.mpr hz
theorem extended_ok (h : b.Fine most) {L : Nat → Int} (hl : Lab b.n L) : Ok (m_is_extended b.d (vec b.n L)) fun d => d = .bool true := by
  unfold m_is_extended o_is_extended
  refine ok_end ?_
  simp only [rb, R.bind_assoc, book_names, len_t, h.nl, neg_int]
  refine ok_step (entries_ok (fin1000 h) fun k hk => ?_) fun d e => ?_
  · rcases hl k hk with z | z
    · rw [z]; exact Int.le_refl _
    · omega
  · subst e
    simp only [okr]
/-- no move leads out of the row -/
def Kept (b : Bk) (L : Nat → Int) : Prop := ∀ m, m < b.mm → ∀ L', nxt b false [m] L = some L' → Cov b.n L L'
theorem closed1_ok (h : b.Fine most) {S L : Nat → Int} (hl : Lab b.n L) (cv : Cov b.n L S) : Ok (m_is_closed b.d (vec b.n S) (.tuple [vec b.n L])) fun d => ∃ z, d = .bool z ∧ (z = true ↔ Kept b L) := by
  have hn := fin1000 h
  unfold m_is_closed o_is_closed
  refine ok_end ?_
  simp only [rb, R.bind_assoc, isi_tt, bool_b, Bool.not_true, Bool.false_eq_true, if_false, items_t]
  refine ok_step (gen_one (c := true) (extended_ok h hl)) fun d e => ?_
  subst e
  simp only [bool_b, rb, Bool.not_true, Bool.false_eq_true, if_false]
  refine ok_step (gen_one (c := true) (ok_mono (covers_ok hn) fun y e => by rw [e, decide_eq_true cv])) fun d e => ?_
  subst e
  simp only [bool_b, rb, Bool.not_true, Bool.false_eq_true, if_false]
  refine bseqP (P := fun _ => Kept b L) (ok_for0 (fun i _ => i = 0 ∨ Kept b L) (.inl rfl) (fun j d s e _ => ?_) fun s hs => ?_) fun s hs => ?_
  · have hd : d = vec b.n L := by
      cases j with
      | zero => simpa using e.symm
      | succ j => simp at e
    subst hd
    simp only [book_moves, rb, len_t, b.moves_length, rng_nat (small62 (show b.mm ≤ 1000 from Nat.le_trans h.m2 (by decide)))]
    refine bseqP (P := fun _ => Kept b L) (ok_range (fun j _ => ∀ m, m < j → ∀ L', nxt b false [m] L = some L' → Cov b.n L L') (fun m hm => absurd hm (Nat.not_lt_zero _)) (fun j s hj hs => ?_) fun s hs => hs) fun s hs => ok_ret (.inr hs)
    refine ok_step (behind_ok (cm := 5) (k := 0) (ns := [j]) h (by decide) (.one hj .nil) (by decide)) fun d e => ?_
    subst e
    cases en : nxt b false [j] L with
    | none =>
      rw [show isNotR (labD b.n none) PyData.none = R.ret (.bool false) from rfl]
      simp only [rb, bool_b, Bool.false_eq_true, if_false, okr]
      intro m hm L' e
      by_cases q : m = j
      · subst q
        rw [en] at e; cases e
      · exact hs m (by omega) L' e
    | some Ln =>
      rw [show isNotR (labD b.n (some Ln)) PyData.none = R.ret (.bool true) from rfl, show labD b.n (some Ln) = vec b.n Ln from rfl]
      simp only [rb, bool_b, if_true, R.bind_assoc]
      refine ok_step (gen_one (c := decide (Cov b.n L Ln)) (covers_ok hn)) fun d e => ?_
      subst e
      simp only [bool_b, rb]
      by_cases q : Cov b.n L Ln
      · simp only [q, decide_true, Bool.not_true, Bool.false_eq_true, if_false, okr]
        intro m hm L' e
        by_cases q2 : m = j
        · subst q2
          rw [en] at e; cases e
          exact q
        · exact hs m (by omega) L' e
      · simp only [q, decide_false, Bool.not_false, if_true, okr]
        exact ⟨false, rfl, (fun z => nomatch z), fun z => absurd (z j hj Ln en) q⟩
  · rcases hs with z | z
    · cases z
    · exact z
  · simp only [okr]
    exact ⟨true, rfl, fun _ => hs, fun _ => rfl⟩
theorem apart1_ok {x : D} : Ok (m_are_apart (.tuple [x])) fun d => d = .bool true := by
  unfold m_are_apart o_are_apart
  refine ok_end ?_
  have r1 : rng1R (.int (([x] : List D).length : Nat)) = R.ret (rangeL 0 1) := rng_nat (n := 1) (by decide)
  simp only [rb, R.bind_assoc, len_t, r1]
  refine bseqP (P := fun _ => True) (ok_range (fun _ _ => True) trivial (fun j s hj _ => ?_) fun _ _ => trivial) fun s _ => by simp only [okr]
  refine bseqP (P := fun _ => True) (ok_range (fun _ _ => True) trivial (fun i s hi _ => ?_) fun _ _ => trivial) fun s _ => ok_ret trivial
  have e : (j : Int) = (i : Int) := by omega
  simp only [ne_int, e, decide_true, Bool.not_true, rb, bool_b, Bool.false_eq_true, if_false, okr]
def keyL (n : Nat) (L : Nat → Int) : D := .tuple ((List.range n).map fun k => if L k = -1 then PyData.tuple [.int 0, .int 0] else .tuple [.int 1, .int (-(L k))])
theorem key_ok {n : Nat} (hn : n ≤ 1000) {L : Nat → Int} : m_order_key (vec n L) = R.ret (keyL n L) := by
  unfold m_order_key o_order_key endR0
  simp only [rb, R.bind_assoc, items_vec]
  rw [comp_vec (g := fun k => if L k = -1 then PyData.tuple [.int 0, .int 0] else .tuple [.int 1, .int (-(L k))]) (le_size hn) fun k hk => by
    simp only [rb, eq_int, bool_b]
    by_cases q : L k = -1
    · simp only [q, decide_true, if_true]
    · simp only [q, decide_false, Bool.false_eq_true, if_false, neg_int, rb]]
  rfl
theorem pair_alike (a b c d : Int) : PySem.W.alike (.tuple [.int a, .int b]) (.tuple [.int c, .int d]) = true := by simp [PySem.W.alike, PySem.W.alikeAll]
theorem alike_map {f g : Nat → D} (h : ∀ i j, PySem.W.alike (f i) (g j) = true) : ∀ l l' : List Nat, PySem.W.alikeAll (l.map f) (l'.map g) = true
  | [], l' => by simp [PySem.W.alikeAll]
  | i :: l, [] => by simp [PySem.W.alikeAll]
  | i :: l, j :: l' => by
    rw [List.map_cons, List.map_cons, PySem.W.alikeAll, h i j, alike_map h l l']
    rfl
theorem key_alike {n n' : Nat} {L L' : Nat → Int} : PySem.W.alike (keyL n L) (keyL n' L') = true := by
  unfold keyL
  rw [PySem.W.alike]
  refine alike_map (fun i j => ?_) _ _
  show PySem.W.alike (if _ then _ else _) (if _ then _ else _) = true
  split <;> split <;> exact pair_alike ..
theorem key_tup {n : Nat} (h : 1 ≤ n) {L : Nat → Int} : isTup1 (keyL n L) = true := by
  obtain ⟨m, rfl⟩ : ∃ m, n = m + 1 := ⟨n - 1, by omega⟩
  unfold keyL
  rw [List.range_succ_eq_map]
  rfl
theorem key_depth {n : Nat} {L : Nat → Int} : (keyL n L).depth ≤ 60 := by
  have key : ∀ l : List Nat, PyData.depthAll (l.map fun k => if L k = -1 then PyData.tuple [.int 0, .int 0] else .tuple [.int 1, .int (-(L k))]) ≤ 5 := by
    intro l
    induction l with
    | nil => simp [PyData.depthAll]
    | cons k l ih =>
      rw [List.map_cons]
      unfold PyData.depthAll
      refine Nat.max_le.mpr ⟨?_, ih⟩
      split <;> simp [PyData.depth, PyData.depthAll]
  unfold keyL PyData.depth
  have := key (List.range n)
  omega
theorem order1_ok (h : b.Fine most) {L : Nat → Int} : Ok (m_in_order (.tuple [vec b.n L])) fun d => d = .list [vec b.n L] := by
  unfold m_in_order o_in_order
  refine ok_end ?_
  have h1 : (1 : Nat) ≤ sizeLine := le_size (by decide)
  have e1 : compR (fun _ => R.ret true) m_order_key [vec b.n L] [] = R.ret [keyL b.n L] := by
    have := comp_eq (f := m_order_key) (g := fun _ => keyL b.n L) (ds := [vec b.n L]) (acc := []) (fun d hd => by
      rw [List.mem_singleton.mp hd]
      exact key_ok (fin1000 h)) (by simpa using h1)
    simpa using this
  have ho : srtOk [keyL b.n L] = true := by
    unfold srtOk
    simp only [List.all_cons, List.all_nil, key_alike, key_tup h.n1, Bool.and_true, Bool.true_or, decide_eq_true (key_depth (n := b.n) (L := L))]
  have e2 : sortKR m_order_key (.tuple [vec b.n L]) = R.ret [vec b.n L] := by
    unfold sortKR sortKL
    simp only [e1, rb]
    rw [if_pos ⟨ho, h1⟩, nx_ret]
    simp [srtK]
  simp only [rb, e2, okr]
theorem report1_ok (h : b.Fine most) (hcm : cm < 2 ^ 64) {S L : Nat → Int} (hl : Lab b.n L) (cv : Cov b.n L S) {p : Nat} (hp : p ≤ 100) {P : Nat → Part} (hP : ∀ i, i < p → PartOk b cm (P i)) :
    Ok (m_is_report b.d (vec b.n S) (.tuple [.tuple [vec b.n L, .tuple ((List.range p).map fun i => (P i).d)]])) fun d => ∃ z, d = .bool z ∧ (z = true ↔ Kept b L ∧ ∃ Lw, Ways b p P S Lw ∧ ∀ k, k < b.n → Lw p k = L k) := by
  have hn := fin1000 h
  unfold m_is_report o_is_report
  refine ok_end ?_
  simp only [rb, R.bind_assoc, isi_tt, bool_b, Bool.not_true, Bool.false_eq_true, if_false, items_t]
  refine ok_step (gen_one (c := true) ?_) fun d e => ?_
  · simp only [isi_tt, rb, bool_b, if_true, len_t, List.length_cons, List.length_nil, eq_int, okr]
    rfl
  subst e
  simp only [bool_b, rb, Bool.not_true, Bool.false_eq_true, if_false]
  have e1 : compR (fun _ => R.ret true) (fun v_row => ixR v_row (.int 0)) [PyData.tuple [vec b.n L, .tuple ((List.range p).map fun i => (P i).d)]] [] = R.ret [vec b.n L] := by
    have := comp_eq (f := fun v_row => ixR v_row (.int 0)) (g := fun _ => vec b.n L) (ds := [PyData.tuple [vec b.n L, .tuple ((List.range p).map fun i => (P i).d)]]) (acc := []) (fun d hd => by
      rw [List.mem_singleton.mp hd]
      exact ix0) (by simpa using (le_size (show (1 : Nat) ≤ 1000 by decide)))
    simpa using this
  simp only [e1, rb, tuple_l]
  refine ok_step (closed1_ok h hl cv) fun d e => ?_
  obtain ⟨zc, rfl, hzc⟩ := e
  simp only [bool_b, rb]
  cases zc with
  | false =>
    simp only [Bool.not_false, if_true, rb]
    refine ok_up (ok_ret ⟨false, rfl, (fun z => nomatch z), fun z => ?_⟩)
    have := hzc.mpr z.1
    cases this
  | true =>
    simp only [Bool.not_true, Bool.false_eq_true, if_false, R.bind_assoc]
    refine ok_step apart1_ok fun d e => ?_
    subst e
    simp only [bool_b, rb, Bool.not_true, Bool.false_eq_true, if_false, list_t, R.bind_assoc]
    refine ok_step (order1_ok h) fun d e => ?_
    subst e
    rw [ne_no (k := 2) (by
      unfold Pl
      intro x hx
      rw [List.mem_singleton.mp hx]
      exact pl_vec) (by decide)]
    simp only [bool_b, rb, Bool.false_eq_true, if_false]
    refine ok_step (P := fun d => ∃ z, d = .bool z ∧ (z = true ↔ ∃ Lw, Ways b p P S Lw ∧ ∀ k, k < b.n → Lw p k = L k)) ?_ fun d e => ?_
    · have key : Ok (R.bind (m_end_of b.d (vec b.n S) (.tuple ((List.range p).map fun i => (P i).d))) fun x => eqR x (vec b.n L)) fun d => ∃ z, d = .bool z ∧ (z = true ↔ ∃ Lw, Ways b p P S Lw ∧ ∀ k, k < b.n → Lw p k = L k) := by
        refine ok_step (end_of_ok h hcm hp hP) fun d e => ?_
        rcases e with ⟨Lw, w, rfl⟩ | ⟨rfl, st⟩
        · obtain ⟨z, ez, hz⟩ := eq_pl (x := vec b.n (Lw p)) (y := vec b.n L) (k := 1) pl_vec pl_vec (by decide)
          rw [ez, okr]
          refine ⟨z, rfl, fun q => ⟨Lw, w, vec_inj (hz.mp q)⟩, fun ⟨Lv, wv, e⟩ => hz.mpr (vec_congr fun k hk => ?_)⟩
          rw [w.one wv p (Nat.le_refl _)]
          exact e k hk
        · rw [eq_no (k := 1) pl_none pl_vec (by decide) (fun z => nomatch z), okr]
          exact ⟨false, rfl, (fun z => nomatch z), fun ⟨Lv, wv, _⟩ => (wv.not_stuck st).elim⟩
      have hg : Ok (genR false (fun d => unp2 d fun v_label v_plan => R.bind (m_end_of b.d (vec b.n S) v_plan) fun x => eqR x v_label) [PyData.tuple [vec b.n L, .tuple ((List.range p).map fun i => (P i).d)]]) fun d => ∃ z, d = .bool z ∧ (z = true ↔ ∃ Lw, Ways b p P S Lw ∧ ∀ k, k < b.n → Lw p k = L k) := by
        unfold genR
        refine ok_step (P := fun d => ∃ z, d = .bool z ∧ (z = true ↔ ∃ Lw, Ways b p P S Lw ∧ ∀ k, k < b.n → Lw p k = L k)) ⟨nx_ok (by rw [unp2_t]; exact key)⟩ fun y e => ?_
        obtain ⟨z, rfl, hz⟩ := e
        unfold genR
        cases z with
        | false => simp only [if_true, okr]; exact ⟨false, rfl, hz⟩
        | true => simp only [Bool.true_eq_false, if_false, okr]; exact ⟨true, rfl, hz⟩
      exact hg
    · obtain ⟨z, rfl, hz⟩ := e
      refine ok_ret ⟨z, rfl, ?_⟩
      rw [hz]
      exact ⟨fun q => ⟨hzc.mp rfl, q⟩, fun q => q.2⟩
end
/-! The law. -/
section
theorem isn_tt : isNotR (.bool true) (.bool true) = R.ret (.bool false) := Eq.trans rfl rfl
theorem is_ff : isR (.bool false) (.bool false) = R.ret (.bool true) := Eq.trans rfl rfl
theorem listL_l {xs : List D} : listL (.list xs) = R.ret xs := Eq.trans rfl rfl
theorem vec_mul0 {n : Nat} (h1 : 1 ≤ n) (h2 : n ≤ 20) : mulR (.tuple [.int 0]) (.int (n : Int)) = R.ret (vec n fun _ => 0) :=
  zero_eq (b := ⟨n, 0, List.replicate n (.int 0), fun _ => ⟨#[]⟩, fun _ _ => 0, fun _ _ => 0, fun _ _ => 0⟩) (most := 0) ⟨h1, h2, Nat.zero_le _, List.length_replicate, fun _ _ => Int.le_refl 0, fun _ _ => Int.le_refl 0, fun _ _ => Int.le_refl 0, fun _ _ => Int.le_refl 0, fun _ _ => Int.le_refl 0⟩ |> fun z => by
    rw [List.length_replicate] at z
    exact z
theorem same_bool {a c : Bool} : m_law_same 2 (.bool a) (.bool c) = R.ret (.bool (a == c)) := by
  cases a <;> cases c <;> rfl
/-- moves by lists -/
abbrev Mv := Str × (Nat → Int) × (Nat → Int)
def mvD (n : Nat) (z : Mv) : D := .tuple [.str z.1, vec n z.2.1, vec n fun _ => 0, vec n z.2.2]
def mv0 : Mv := (⟨#[]⟩, fun _ => 0, fun _ => 0)
def bkOf (n : Nat) (names : List D) (zs : List Mv) : Bk := ⟨n, zs.length, names, fun i => (zs.getD i mv0).1, fun i => (zs.getD i mv0).2.1, fun _ _ => 0, fun i => (zs.getD i mv0).2.2⟩
theorem bk_moves {n : Nat} {names : List D} {zs : List Mv} : (bkOf n names zs).moves = zs.map (mvD n) := by
  unfold Bk.moves
  apply List.ext_getElem?
  intro i
  rw [List.getElem?_map, List.getElem?_map]
  show Option.map _ ((List.range zs.length)[i]?) = _
  by_cases hi : i < zs.length
  · rw [List.getElem?_range hi, List.getElem?_eq_getElem hi]
    show some ((bkOf n names zs).move i) = some (mvD n zs[i])
    unfold Bk.move mvD bkOf
    simp only [List.getD, List.getElem?_eq_getElem hi, Option.getD_some]
  · rw [List.getElem?_eq_none (by rw [List.length_range]; omega), List.getElem?_eq_none (by omega)]
    rfl
def MvOk (z : Mv) : Prop := ∀ k, 0 ≤ z.2.1 k ∧ z.2.1 k ≤ 1000 ∧ 0 ≤ z.2.2 k ∧ z.2.2 k ≤ 1000
def Loss (z : Mv) : Prop := ∀ k, z.2.2 k ≤ z.2.1 k
theorem getD_ok {P : Mv → Prop} {zs : List Mv} (h : ∀ z ∈ zs, P z) (h0 : P mv0) (i : Nat) : P (zs.getD i mv0) := by
  by_cases hi : i < zs.length
  · simp only [List.getD, List.getElem?_eq_getElem hi, Option.getD_some]
    exact h _ (List.getElem_mem hi)
  · simp only [List.getD, List.getElem?_eq_none (show zs.length ≤ i by omega), Option.getD_none]
    exact h0
theorem mv0_ok : MvOk mv0 := fun k => ⟨Int.le_refl 0, by show (0 : Int) ≤ 1000; decide, Int.le_refl 0, by show (0 : Int) ≤ 1000; decide⟩
theorem bk_fine {n : Nat} (h1 : 1 ≤ n) (h2 : n ≤ 6) {names : List D} (hn : names.length = n) {zs : List Mv} (hz : zs.length ≤ 100) (h : ∀ z ∈ zs, MvOk z) : (bkOf n names zs).Fine 1000 :=
  ⟨h1, by show n ≤ 20; omega, hz, hn, fun i k => (getD_ok h mv0_ok i k).1, fun i k => (getD_ok h mv0_ok i k).2.1, fun _ _ => Int.le_refl 0, fun i k => (getD_ok h mv0_ok i k).2.2.1, fun i k => (getD_ok h mv0_ok i k).2.2.2⟩
section
variable {b : Bk} {most : Int} {m : Nat} {L S : Nat → Int}
def KeptM (b : Bk) (m : Nat) (L : Nat → Int) : Prop := ∀ L', nxt b false [m] L = some L' → Cov b.n L L'
theorem chg1 (k : Nat) : b.chg [m] k = b.gain m k := by simp [Bk.chg]
theorem kept_same (h : b.Fine most) (hl : Lab b.n L) (hg : ∀ k, k < b.n → L k ≠ -1 → b.gain m k ≤ 0) : KeptM b m L := fun L' e k hk => by
  by_cases q : L k = -1
  · exact .inl q
  · have c := cov_le (nxt_cov e) hk q
    have h0 := need_chg0 h [m] k
    rw [nxt_run e k, if_neg q]
    have := hg k hk q
    rw [chg1] at h0 ⊢
    exact .inr ⟨by omega, by omega⟩
theorem kept_loss (h : b.Fine most) (hl : Lab b.n L) (hg : ∀ k, b.hi m k ≤ b.tk m k) : KeptM b m L := kept_same h hl fun k _ _ => by
  have := hg k
  unfold Bk.gain
  omega
/-- the gaining move, at a stock -/
theorem kept_gain (h : b.Fine most) (hs : ∀ k, 0 ≤ S k) {k : Nat} (hk : k < b.n) (hk2 : 0 < b.gain m k) : KeptM b m S ↔ ∃ j, j < b.n ∧ S j < b.tk m j := by
  constructor
  · intro h1
    by_cases q : ∃ j, j < b.n ∧ S j < b.tk m j
    · exact q
    · have cv : Cov b.n S (b.need [m]) := fun j hj => .inr ⟨by have := Bk.need_nn h.tk0 [m] j; omega, by
        have h2 : ¬ S j < b.tk m j := fun z => q ⟨j, hj, z⟩
        rw [Bk.need, Bk.need]
        have := hs j
        have := h.lo0 m j
        have := h.hi0 m j
        unfold Bk.gain
        omega⟩
      have e : nxt b false [m] S = some fun j => if S j = -1 then -1 else S j + b.chg [m] j := by
        unfold nxt
        rw [if_pos cv, if_neg (by decide)]
      have := h1 _ e k hk
      have hk0 := hs k
      have this : S k = -1 ∨ ((if S k = -1 then -1 else S k + b.chg [m] k) ≠ -1 ∧ (if S k = -1 then -1 else S k + b.chg [m] k) ≤ S k) := this
      rw [if_neg (by omega), chg1] at this
      omega
  · rintro ⟨j, hj, hlt⟩ L' e
    have := cov_le (nxt_cov e) hj (by have := hs j; omega)
    rw [Bk.need] at this
    omega
end
theorem entry_ok : Ok m_law_entry fun d => ∃ z : Int, d = .int z ∧ 0 ≤ z ∧ z ≤ 1000 := by
  unfold m_law_entry o_law_entry
  refine ok_end ?_
  simp only [rb, R.bind_assoc]
  refine ok_step (drawb_pos (n := 20) (by decide) (by decide)) fun d e => ?_
  obtain ⟨z1, a1, a2, rfl⟩ := e
  refine ok_step (drawb_pos (n := 1001) (by decide) (by decide)) fun d e => ?_
  obtain ⟨z2, b1, b2, rfl⟩ := e
  have hl : ([PyData.int 0, PyData.int 0, PyData.int 1, PyData.int 2, PyData.int z1, PyData.int z2, PyData.int 1000] : List D).length ≤ sizeLine := le_size (by show 7 ≤ 1000; decide)
  simp only [rb, hl, if_true]
  refine ok_step (drawb_lit (n := 7) (k := 7) rfl (by decide) (by decide)) fun d e => ?_
  obtain ⟨i, hi, rfl⟩ := e
  have e7 : ([PyData.int 0, PyData.int 0, PyData.int 1, PyData.int 2, PyData.int z1, PyData.int z2, PyData.int 1000] : List D) = ([0, 0, 1, 2, z1, z2, 1000] : List Int).map PyData.int := rfl
  rw [e7, ix_ints (ns := [0, 0, 1, 2, z1, z2, 1000]) (i := i) hi]
  simp only [rb, okr]
  refine ⟨_, rfl, ?_⟩
  have := List.getElem_mem (l := ([0, 0, 1, 2, z1, z2, 1000] : List Int)) (n := i) hi
  simp only [List.mem_cons, List.not_mem_nil, or_false] at this
  omega
theorem losing_ok {n : Nat} (h1 : 1 ≤ n) (hn : n ≤ 6) {nm : Str} : Ok (m_law_losing (.int (n : Int)) (.str nm)) fun d => ∃ z : Mv, d = mvD n z ∧ (MvOk z ∧ Loss z) := by
  unfold m_law_losing o_law_losing
  refine ok_end ?_
  simp only [rb, R.bind_assoc, rng_nat (small62 (show n ≤ 1000 by omega))]
  refine ok_step (comp_range_ok (P := fun k z => 0 ≤ z ∧ z ≤ 1000) (le_size (by omega)) fun k hk => entry_ok) fun ys e => ?_
  obtain ⟨tk, rfl, ht, ht0⟩ := e
  simp only [items_l, rb]
  refine ok_step (comp_vec_ok (P := fun k z => 0 ≤ z ∧ z ≤ tk k) (le_size (by omega)) fun k hk => ?_) fun ys e => ?_
  · have := ht k hk
    simp only [fdiv_int (show (2 : Int) ≠ 0 by decide) (fd_small (by decide)), sub_int, max_int, rb]
    refine ok_step (drawb_lit (n := 4) (k := 4) rfl (by decide) (by decide)) fun d e => ?_
    obtain ⟨i, hi, rfl⟩ := e
    refine ok_eq (ix_ints (ns := [tk k, 0, (tk k).fdiv 2, if tk k - 1 > 0 then tk k - 1 else 0]) (i := i) hi) ⟨_, rfl, ?_⟩
    have hm := List.getElem_mem (l := ([tk k, 0, (tk k).fdiv 2, if tk k - 1 > 0 then tk k - 1 else 0] : List Int)) (n := i) hi
    have e2 : (tk k).fdiv 2 = tk k / 2 := Int.fdiv_eq_ediv_of_nonneg _ (by decide)
    rw [e2] at hm ⊢
    simp only [List.mem_cons, List.not_mem_nil, or_false] at hm
    rcases hm with z | z | z | z
    · omega
    · omega
    · omega
    · rw [z]
      split <;> omega
  obtain ⟨hi, rfl, hh, hh0⟩ := e
  simp only [lst_vec, rb, vec_mul0 h1 (by omega)]
  refine ok_ret ⟨(nm, tk, hi), rfl, fun k => ?_, fun k => ?_⟩
  · show 0 ≤ tk k ∧ tk k ≤ 1000 ∧ 0 ≤ hi k ∧ hi k ≤ 1000
    by_cases hk : k < n
    · have := ht k hk; have := hh k hk; omega
    · have := ht0 k (by omega); have := hh0 k (by omega); omega
  · show hi k ≤ tk k
    by_cases hk : k < n
    · exact (hh k hk).2
    · have := ht0 k (by omega); have := hh0 k (by omega); omega
theorem lose_nm {k : Nat} (hk : k < 8) : ∃ nm : Str, (R.bind (strI (.int (k : Int))) fun y => addR (.str "lose") y) = R.ret (.str nm) := by
  have key : ∀ s : Str, s.length ≤ 900 → ∃ nm : Str, addR (.str "lose") (.str s) = R.ret (.str nm) := fun s hs => ⟨_, add_str (by
    have : (Str.ofString "lose").length = 4 := by decide +kernel
    rw [this]; omega)⟩
  rcases (by omega : k = 0 ∨ k = 1 ∨ k = 2 ∨ k = 3 ∨ k = 4 ∨ k = 5 ∨ k = 6 ∨ k = 7) with rfl | rfl | rfl | rfl | rfl | rfl | rfl | rfl
  all_goals
    simp only [strI]
    rw [if_pos (by decide)]
    rw [rb]
    exact key _ (by decide +kernel)
end
section
/-- the label with an END -/
def endL (S : Nat → Int) (k : Nat) : Nat → Int := fun j => if j = k then -1 else S j
def planP (at' : Nat) : Nat → Part := fun i => ⟨decide (i = 1), [.tuple [.str "do", .int (at' : Int)]], [at']⟩
theorem plan2 {m : Nat} : (List.range 2).map (fun i => (planP m i).d) = [.tuple [.str "run", .tuple [.tuple [.str "do", .int (m : Int)]]], .tuple [.str "pump", .tuple [.tuple [.str "do", .int (m : Int)]]]] := by
  simp [List.range_succ, planP, Part.d, wordS]
theorem plan1 {m : Nat} : (List.range 1).map (fun i => (planP m i).d) = [.tuple [.str "run", .tuple [.tuple [.str "do", .int (m : Int)]]]] := by
  simp [List.range_succ, planP, Part.d, wordS]
theorem plan0 {m : Nat} : (List.range 0).map (fun i => (planP m i).d) = [] := rfl
theorem planP_ok {b : Bk} {m : Nat} (hm : m < b.mm) (i : Nat) : PartOk b 5 (planP m i) := ⟨.one hm .nil, by simp [planP], by simp [planP], by simp [planP]⟩
section
variable {b : Bk} {most : Int} {m k : Nat} {S : Nat → Int}
theorem end_lab (hs : ∀ k, 0 ≤ S k) : Lab b.n (endL S k) := fun j _ => by
  unfold endL
  by_cases q : j = k
  · rw [if_pos q]; exact .inl rfl
  · rw [if_neg q]; exact .inr (hs j)
theorem end_cov (hs : ∀ k, 0 ≤ S k) : Cov b.n (endL S k) S := fun j _ => by
  unfold endL
  by_cases q : j = k
  · rw [if_pos q]; exact .inl rfl
  · rw [if_neg q]; exact .inr ⟨by have := hs j; omega, Int.le_refl _⟩
theorem end_ne (hs : ∀ k, 0 ≤ S k) (hk : k < b.n) {p : Nat} {P : Nat → Part} (hp : p = 0) : ¬ ∃ Lw, Ways b p P S Lw ∧ ∀ j, j < b.n → Lw p j = endL S k j := by
  rintro ⟨Lw, w, e⟩
  have := e k hk
  rw [hp, w.1] at this
  unfold endL at this
  rw [if_pos rfl] at this
  have := hs k
  omega
theorem end_ne1 (h : b.Fine most) (hs : ∀ k, 0 ≤ S k) (hk : k < b.n) (hg : 0 < b.gain m k) : ¬ ∃ Lw, Ways b 1 (planP m) S Lw ∧ ∀ j, j < b.n → Lw 1 j = endL S k j := by
  rintro ⟨Lw, w, e⟩
  have e1 : nxt b false [m] (Lw 0) = some (Lw 1) := w.2 0 (by decide)
  have := e k hk
  rw [nxt_run e1 k, w.1, chg1] at this
  unfold endL at this
  have h3 := hs k
  rw [if_pos rfl, if_neg (by omega)] at this
  omega
theorem end_ways (h : b.Fine most) (hs : ∀ k, 0 ≤ S k) (hk : k < b.n) (hg : 0 < b.gain m k) (hg0 : ∀ j, j < b.n → j ≠ k → b.gain m j = 0) : (∃ Lw, Ways b 2 (planP m) S Lw ∧ ∀ j, j < b.n → Lw 2 j = endL S k j) ↔ ¬ ∃ j, j < b.n ∧ S j < b.tk m j := by
  constructor
  · rintro ⟨Lw, w, _⟩ ⟨j, hj, hlt⟩
    have e1 : nxt b false [m] (Lw 0) = some (Lw 1) := w.2 0 (by decide)
    rw [w.1] at e1
    have := cov_le (nxt_cov e1) hj (by have := hs j; omega)
    rw [Bk.need] at this
    omega
  · intro q
    have gn : ∀ j, j < b.n → 0 ≤ b.gain m j := fun j hj => by
      by_cases z : j = k
      · rw [z]; omega
      · rw [hg0 j hj z]; exact Int.le_refl 0
    have nd : ∀ j, j < b.n → b.need [m] j ≤ S j := fun j hj => by
      have h2 : ¬ S j < b.tk m j := fun z => q ⟨j, hj, z⟩
      rw [Bk.need, Bk.need]
      have := gn j hj
      have := hs j
      omega
    have nn : ∀ j, 0 ≤ b.need [m] j := Bk.need_nn h.tk0 [m]
    have cv : Cov b.n S (b.need [m]) := fun j hj => .inr ⟨by have := nn j; omega, nd j hj⟩
    let L1 : Nat → Int := fun j => if S j = -1 then -1 else S j + b.chg [m] j
    have hL1 : ∀ j, L1 j = S j + b.gain m j := fun j => by
      show (if S j = -1 then -1 else S j + b.chg [m] j) = _
      have := hs j
      rw [if_neg (by omega), chg1]
    have cv1 : Cov b.n L1 (b.need [m]) := fun j hj => .inr ⟨by have := nn j; omega, by rw [hL1]; have := nd j hj; have := gn j hj; omega⟩
    have e1 : nxt b false [m] S = some L1 := by
      unfold nxt
      rw [if_pos cv, if_neg (by decide)]
    have e2 : nxt b true [m] L1 = some fun j => if 0 < b.chg [m] j then -1 else L1 j := by
      unfold nxt
      rw [if_pos cv1, if_pos rfl, if_neg]
      rintro ⟨j, hj, _, hlt⟩
      rw [chg1] at hlt
      have := gn j hj
      omega
    refine ⟨fun i => match i with | 0 => S | 1 => L1 | _ => fun j => if 0 < b.chg [m] j then -1 else L1 j, ⟨rfl, fun i hi => ?_⟩, fun j hj => ?_⟩
    · rcases (by omega : i = 0 ∨ i = 1) with rfl | rfl
      · exact e1
      · exact e2
    · show (if 0 < b.chg [m] j then -1 else L1 j) = if j = k then -1 else S j
      rw [chg1, hL1]
      by_cases z : j = k
      · rw [if_pos (by rw [z]; exact hg), if_pos z]
      · rw [hg0 j hj z, if_neg (by decide), if_neg z]
        omega
end
theorem bool_iff {z : Bool} {p q : Prop} [Decidable q] (h : z = true ↔ p) (e : p ↔ q) : z = decide q := by
  cases z with
  | true => exact (decide_eq_true (e.mp (h.mp rfl))).symm
  | false => exact (decide_eq_false fun y => by have := h.mpr (e.mpr y); cases this).symm
theorem law_ok : Ok o_law fun o => ∃ t, o = .rt (.bool true) t := by
  unfold o_law
  simp only [rb, R.bind_assoc]
  refine ok_step (drawb_lit (n := 6) (k := 6) rfl (by decide) (by decide)) fun d e => ?_
  obtain ⟨i, hi, rfl⟩ := e
  have en : (1 : Int) + (i : Int) = ((i + 1 : Nat) : Int) := by omega
  have hl6 : ([PyData.str "wood", PyData.str "gold", PyData.str "ore", PyData.str "tea", PyData.str "salt", PyData.str "ink"] : List D).length ≤ sizeLine := le_size (by decide)
  simp only [add_int, rb, en, hl6, if_true, part_int, slice_to]
  have hn1 : 1 ≤ i + 1 := by omega
  have hn6 : i + 1 ≤ 6 := by omega
  generalize i + 1 = n at hn1 hn6
  have hnl : (([PyData.str "wood", PyData.str "gold", PyData.str "ore", PyData.str "tea", PyData.str "salt", PyData.str "ink"] : List D).take n).length = n := by
    rw [List.length_take]
    show min n 6 = n
    omega
  generalize ([PyData.str "wood", PyData.str "gold", PyData.str "ore", PyData.str "tea", PyData.str "salt", PyData.str "ink"] : List D).take n = names at hnl
  refine ok_step (drawb_lit (n := 8) (k := 8) rfl (by decide) (by decide)) fun d e => ?_
  obtain ⟨mm, hmm, rfl⟩ := e
  simp only [rb, rng_nat (small62 (show mm ≤ 1000 by omega))]
  refine ok_step (comp_all (P := fun y => ∃ z : Mv, y = mvD n z ∧ (MvOk z ∧ Loss z)) (Q := fun ys => ∃ zs : List Mv, ys = zs.map (mvD n) ∧ zs.length = mm ∧ ∀ z ∈ zs, MvOk z ∧ Loss z) (fun d hd => ?_) (by rw [rangeL_length]; exact le_size (by omega)) fun ys hl hy => ?_) fun ys e => ?_
  · obtain ⟨k, hk, e⟩ := List.mem_iff_getElem.mp hd
    obtain ⟨hk2, rfl⟩ := rangeL_get (by rw [List.getElem?_eq_getElem hk, e])
    rw [Int.zero_add]
    obtain ⟨nm, en⟩ := lose_nm (k := k) (by omega)
    rw [← R.bind_assoc, en]
    simp only [rb]
    exact losing_ok hn1 hn6
  · obtain ⟨zs, e1, e2⟩ := all_map hy
    refine ⟨zs, e1, ?_, e2⟩
    rw [e1, List.length_map, rangeL_length] at hl
    exact hl
  obtain ⟨zs, rfl, hzl, hzs⟩ := e
  simp only [rb, rng_nat (small62 (show n ≤ 1000 by omega)), R.bind_assoc]
  refine ok_step (comp_range_ok (P := fun k z => 0 ≤ z ∧ z ≤ 1000000) (le_size (by omega)) fun k hk => ?_) fun ys e => ?_
  · refine ok_step (drawb_pos (n := 9) (by decide) (by decide)) fun d e => ?_
    obtain ⟨z1, a1, a2, rfl⟩ := e
    try simp only [rb, R.bind_assoc]
    refine ok_step (drawb_pos (n := 2001) (by decide) (by decide)) fun d e => ?_
    obtain ⟨z2, b1, b2, rfl⟩ := e
    try simp only [rb, R.bind_assoc]
    refine ok_step (drawb_pos (n := 1000001) (by decide) (by decide)) fun d e => ?_
    obtain ⟨z3, c1, c2, rfl⟩ := e
    try simp only [rb]
    refine ok_step (drawb_lit (n := 3) (k := 3) rfl (by decide) (by decide)) fun d e => ?_
    obtain ⟨q, hq, rfl⟩ := e
    refine ok_eq (ix_ints (ns := [z1, z2, z3]) (i := q) hq) ⟨_, rfl, ?_⟩
    have := List.getElem_mem (l := ([z1, z2, z3] : List Int)) (n := q) hq
    simp only [List.mem_cons, List.not_mem_nil, or_false] at this
    omega
  obtain ⟨S, rfl, hS, hS0⟩ := e
  have hs : ∀ k, 0 ≤ S k := fun k => by
    by_cases hk : k < n
    · exact (hS k hk).1
    · rw [hS0 k (by omega)]; exact Int.le_refl 0
  have hs1 : ∀ k, S k ≤ 1000000 := fun k => by
    by_cases hk : k < n
    · exact (hS k hk).2
    · rw [hS0 k (by omega)]; decide
  have tv : ∀ s : Nat → Int, PyData.tuple (vecL n s) = vec n s := fun _ => rfl
  simp only [rb, tuple_l, R.bind_assoc, tv]
  have hb1 : (bkOf n names zs).Fine 1000 := bk_fine hn1 hn6 hnl (by omega) fun z hz => (hzs z hz).1
  have ed1 : PyData.tuple [.tuple names, .tuple (zs.map (mvD n))] = (bkOf n names zs).d := by
    unfold Bk.d
    rw [bk_moves]
    rfl
  have labS : ∀ N, Lab N S := fun N k _ => .inr (hs k)
  have covS : ∀ N, Cov N S S := fun N k _ => .inr ⟨by have := hs k; omega, Int.le_refl _⟩
  have kept1 : Kept (bkOf n names zs) S := fun m hm => kept_loss hb1 (labS _) fun k => getD_ok (P := fun z => Loss z) (fun z hz => (hzs z hz).2) (fun _ => Int.le_refl 0) m k
  rw [ed1]
  refine ok_step (closed1_ok hb1 (labS _) (covS _)) fun d e => ?_
  obtain ⟨z, rfl, hz⟩ := e
  have := hz.mpr kept1
  subst this
  simp only [isn_tt, rb, bool_b, Bool.false_eq_true, if_false, R.bind_assoc]
  have rep1 := report1_ok (cm := 5) (p := 0) (P := planP 0) hb1 (by decide) (labS _) (covS (bkOf n names zs).n) (by decide) (fun i hi => absurd hi (Nat.not_lt_zero _))
  refine ok_step rep1 fun d e => ?_
  obtain ⟨z, rfl, hz⟩ := e
  have := hz.mpr ⟨kept1, fun _ => S, ⟨rfl, fun i hi => absurd hi (Nat.not_lt_zero _)⟩, fun _ _ => rfl⟩
  subst this
  simp only [isn_tt, rb, bool_b, Bool.false_eq_true, if_false, R.bind_assoc, len_l, List.length_map, hzl, add_int]
  -- the gaining move
  refine ok_step (drawb_lit (n := (mm : Int) + 1) (k := mm + 1) (by omega) (by omega) (by omega)) fun d e => ?_
  obtain ⟨at', hat, rfl⟩ := e
  try simp only [rb, R.bind_assoc]
  refine ok_step (drawb_lit (n := (n : Int)) rfl (by omega) (by omega)) fun d e => ?_
  obtain ⟨k, hk, rfl⟩ := e
  try simp only [rb, R.bind_assoc, items_vec]
  refine ok_step (comp_vec_ok (P := fun k z => 0 ≤ z ∧ z ≤ 1000) (le_size (by omega)) fun k hk => ?_) fun ys e => ?_
  · have h1 := hs k
    have h2 := hs1 k
    simp only [add_int, rb]
    refine ok_step (drawb_pos (by omega) (by omega)) fun d e => ?_
    obtain ⟨z, z0, z1, rfl⟩ := e
    simp only [min_int, okr]
    exact ⟨_, rfl, by split <;> omega, by split <;> omega⟩
  obtain ⟨t0, rfl, ht, _⟩ := e
  refine ok_step (drawb_pos (n := 3) (by decide) (by decide)) fun d e => ?_
  obtain ⟨w3, _, _, rfl⟩ := e
  try simp only [rb, eq_int, bool_b]
  refine bseqP (P := fun s => ∃ t : Nat → Int, s = vecL n t ∧ ∀ k, k < n → 0 ≤ t k ∧ t k ≤ 1000) ?_ fun s hs' => ?_
  · by_cases q : w3 = 0
    · simp only [q, decide_true, if_true, R.bind_assoc]
      refine ok_step (drawb_lit (n := (n : Int)) rfl (by omega) (by omega)) fun d e => ?_
      obtain ⟨j, hj, rfl⟩ := e
      simp only [put_vec hj, rb, okr]
      refine ⟨_, rfl, fun k hk => ?_⟩
      show 0 ≤ (if k = j then (1000 : Int) else t0 k) ∧ (if k = j then (1000 : Int) else t0 k) ≤ 1000
      have := ht k hk
      split <;> omega
    · simp only [q, decide_false, Bool.false_eq_true, if_false, okr]
      exact ⟨t0, rfl, ht⟩
  obtain ⟨t, rfl, ht⟩ := hs'
  simp only [ix_vecL hk, rb, R.bind_assoc, min_int, put_vec hk]
  generalize etk : (fun i => if i = k then (if 990 < t k then (990 : Int) else t k) else t i) = tk
  simp only [listL_l, rb, ix_vecL hk, add_int]
  refine ok_step (drawb_pos (n := 10) (by decide) (by decide)) fun d e => ?_
  obtain ⟨g, g0, g1, rfl⟩ := e
  simp only [add_int, rb, put_vec hk, lst_vec, vec_mul0 hn1 (show n ≤ 20 by omega), R.bind_assoc]
  have htk : ∀ j, j < n → 0 ≤ tk j ∧ tk j ≤ 1000 := fun j hj => by
    rw [← etk]
    show 0 ≤ (if j = k then _ else _) ∧ (if j = k then _ else _) ≤ 1000
    have h1 := ht j hj
    have h2 := ht k hk
    by_cases q : j = k
    · rw [if_pos q]; split <;> omega
    · rw [if_neg q]; exact h1
  have htkk : tk k ≤ 990 := by
    rw [← etk]
    show (if k = k then _ else _) ≤ (990 : Int)
    rw [if_pos rfl]
    split <;> omega
  have etkk : (if 990 < t k then (990 : Int) else t k) = tk k := by
    rw [← etk]
    show _ = if k = k then _ else _
    rw [if_pos rfl]
  have slL : ∀ (xs : List D) (j : Nat), sliceR (.list xs) none (some (j : Int)) = R.ret (.list (xs.take j)) := fun xs j => by
    show R.ret (PyData.list (cutD xs none (some (j : Int)))) = _
    rw [cut_take]
  have sdL : ∀ (xs : List D) (j : Nat), sliceR (.list xs) (some (j : Int)) none = R.ret (.list (xs.drop j)) := fun xs j => by
    show R.ret (PyData.list (cutD xs (some (j : Int)) none)) = _
    rw [cut_drop]
  -- the second book
  let zg : Mv := ("gain", fun j => if j < n then tk j else 0, fun j => if j < n then (if j = k then tk k + 1 + g else tk j) else 0)
  have ezg : mvD n zg = .tuple [.str "gain", vec n tk, vec n fun _ => 0, vec n fun i => if i = k then tk k + 1 + g else tk i] := by
    show PyData.tuple [.str "gain", vec n (fun j => if j < n then tk j else 0), vec n fun _ => 0, vec n fun j => if j < n then (if j = k then tk k + 1 + g else tk j) else 0] = _
    rw [vec_congr (a := fun j => if j < n then tk j else 0) (b := tk) fun j hj => if_pos hj, vec_congr (a := fun j => if j < n then (if j = k then tk k + 1 + g else tk j) else 0) (b := fun i => if i = k then tk k + 1 + g else tk i) fun j hj => if_pos hj]
  have htl : (zs.take at').length = at' := by rw [List.length_take]; omega
  have hb2 : (bkOf n names (zs.take at' ++ [zg] ++ zs.drop at')).Fine 1000 := bk_fine hn1 hn6 hnl (by
      rw [List.length_append, List.length_append, htl, List.length_drop, List.length_singleton]; omega) fun z hz => by
    rw [List.mem_append, List.mem_append, List.mem_singleton] at hz
    rcases hz with (hz | rfl) | hz
    · exact (hzs z (List.mem_of_mem_take hz)).1
    · intro j
      show 0 ≤ (if j < n then tk j else 0) ∧ (if j < n then tk j else 0) ≤ 1000 ∧ 0 ≤ (if j < n then (if j = k then tk k + 1 + g else tk j) else 0) ∧ (if j < n then (if j = k then tk k + 1 + g else tk j) else 0) ≤ 1000
      by_cases hj : j < n
      · simp only [if_pos hj]
        have h1 := htk j hj
        have h2 := htk k hk
        by_cases q : j = k
        · rw [if_pos q]; omega
        · rw [if_neg q]; omega
      · simp only [if_neg hj]
        omega
    · exact (hzs z (List.mem_of_mem_drop hz)).1
  have ed2 : PyData.tuple [.tuple names, .tuple ((zs.map (mvD n)).take at' ++ [mvD n zg] ++ (zs.map (mvD n)).drop at')] = (bkOf n names (zs.take at' ++ [zg] ++ zs.drop at')).d := by
    unfold Bk.d
    rw [bk_moves, List.map_append, List.map_append, List.map_take, List.map_drop]
    rfl
  have gat : (zs.take at' ++ [zg] ++ zs.drop at').getD at' mv0 = zg := by
    rw [List.append_assoc]
    simp only [List.getD]
    rw [List.getElem?_append_right (by omega), htl, Nat.sub_self]
    rfl
  have gloss : ∀ m, m ≠ at' → Loss ((zs.take at' ++ [zg] ++ zs.drop at').getD m mv0) := fun m hm => by
    have h0 : Loss mv0 := fun _ => Int.le_refl 0
    rw [List.append_assoc]
    simp only [List.getD]
    by_cases q : m < at'
    · rw [List.getElem?_append_left (by omega)]
      have := getD_ok (P := fun z => Loss z) (zs := zs.take at') (fun z hz => (hzs z (List.mem_of_mem_take hz)).2) h0 m
      exact this
    · rw [List.getElem?_append_right (by omega), htl]
      have e : m - at' = (m - at' - 1) + 1 := by omega
      rw [e]
      show Loss ((([zg] ++ zs.drop at')[m - at' - 1 + 1]?).getD mv0)
      rw [List.singleton_append, List.getElem?_cons_succ]
      exact getD_ok (P := fun z => Loss z) (zs := zs.drop at') (fun z hz => (hzs z (List.mem_of_mem_drop hz)).2) h0 (m - at' - 1)
  have hmm2 : at' < (bkOf n names (zs.take at' ++ [zg] ++ zs.drop at')).mm := by
    show at' < (zs.take at' ++ [zg] ++ zs.drop at').length
    rw [List.length_append, List.length_append, htl, List.length_singleton]; omega
  have b2n : (bkOf n names (zs.take at' ++ [zg] ++ zs.drop at')).n = n := rfl
  have tkAt : ∀ j, j < n → (bkOf n names (zs.take at' ++ [zg] ++ zs.drop at')).tk at' j = tk j := fun j hj => by
    show ((zs.take at' ++ [zg] ++ zs.drop at').getD at' mv0).2.1 j = tk j
    rw [gat]
    exact if_pos hj
  have hiAt : ∀ j, j < n → (bkOf n names (zs.take at' ++ [zg] ++ zs.drop at')).hi at' j = if j = k then tk k + 1 + g else tk j := fun j hj => by
    show ((zs.take at' ++ [zg] ++ zs.drop at').getD at' mv0).2.2 j = _
    rw [gat]
    exact if_pos hj
  have loss2 : ∀ m, m ≠ at' → ∀ j, (bkOf n names (zs.take at' ++ [zg] ++ zs.drop at')).hi m j ≤ (bkOf n names (zs.take at' ++ [zg] ++ zs.drop at')).tk m j := fun m hm j => gloss m hm j
  generalize bkOf n names (zs.take at' ++ [zg] ++ zs.drop at') = b2 at hb2 ed2 hmm2 b2n tkAt hiAt loss2
  have gk : 0 < b2.gain at' k := by
    unfold Bk.gain
    rw [tkAt k hk, hiAt k hk, if_pos rfl]
    omega
  have gj : ∀ j, j < b2.n → j ≠ k → b2.gain at' j = 0 := fun j hj q => by
    rw [b2n] at hj
    unfold Bk.gain
    rw [tkAt j hj, hiAt j hj, if_neg q]
    omega
  have keptIff : ∀ L, Lab b2.n L → (Kept b2 L ↔ KeptM b2 at' L) := fun L hl => ⟨fun h => h at' hmm2, fun h m hm => by
    by_cases q : m = at'
    · rw [q]; exact h
    · exact kept_loss hb2 hl (loss2 m q)⟩
  have dueIff : (∃ j, j < b2.n ∧ S j < b2.tk at' j) ↔ ∃ j, j < n ∧ S j < tk j := by
    rw [b2n]
    exact ⟨fun ⟨j, h1, h2⟩ => ⟨j, h1, by rw [← tkAt j h1]; exact h2⟩, fun ⟨j, h1, h2⟩ => ⟨j, h1, by rw [tkAt j h1]; exact h2⟩⟩
  have kS : Kept b2 S ↔ ∃ j, j < n ∧ S j < tk j := (keptIff S (labS _)).trans ((kept_gain hb2 hs (by rw [b2n]; exact hk) gk).trans dueIff)
  have kE : Kept b2 (endL S k) := (keptIff _ (end_lab hs)).mpr (kept_same hb2 (end_lab hs) fun j hj q => by
    have hjk : j ≠ k := fun z => q (by unfold endL; exact if_pos z)
    rw [gj j hj hjk]
    exact Int.le_refl 0)
  have ew : (∃ Lw, Ways b2 2 (planP at') S Lw ∧ ∀ j, j < b2.n → Lw 2 j = endL S k j) ↔ ¬ ∃ j, j < n ∧ S j < tk j := by
    rw [← dueIff]
    exact end_ways hb2 hs (by rw [b2n]; exact hk) gk gj
  have hzl2 : (zs.map (mvD n)).length = mm := by rw [List.length_map]; exact hzl
  have e1k : (k : Int) + 1 = ((k + 1 : Nat) : Int) := by omega
  simp only [if_true, etkk, part_int, rb, slL, sdL, tv, ← ezg]
  rw [addl_ok (by rw [List.length_take, List.length_singleton]; omega)]
  simp only [rb]
  rw [addl_ok (by rw [List.length_append, List.length_take, List.length_singleton, List.length_drop]; omega)]
  simp only [rb, tuple_l, ed2]
  rw [comp_range (g := fun j => PyData.bool (decide (S j < tk j))) (le_size (show n ≤ 1000 by omega)) fun j hj => by simp only [ix_vecL hj, ix_vec hj, rb, gt_int]]
  simp only [rb, any_range (fun j => S j < tk j)]
  have c1 := closed1_ok hb2 (labS b2.n) (covS b2.n)
  rw [b2n] at c1
  refine ok_step c1 fun d e => ?_
  obtain ⟨z, rfl, hz⟩ := e
  have ez := bool_iff hz kS
  subst ez
  simp only [same_bool, beq_self_eq_true, rb, bool_b, Bool.not_true, Bool.false_eq_true, if_false, R.bind_assoc]
  have r2 := report1_ok (cm := 5) (p := 0) (P := planP 0) hb2 (by decide) (labS b2.n) (covS b2.n) (by decide) (fun i hi => absurd hi (Nat.not_lt_zero _))
  rw [b2n] at r2
  refine ok_step r2 fun d e => ?_
  obtain ⟨z, rfl, hz⟩ := e
  have ez := bool_iff hz (q := ∃ j, j < n ∧ S j < tk j) ⟨fun q => kS.mp q.1, fun q => ⟨kS.mpr q, fun _ => S, ⟨rfl, fun i hi => absurd hi (Nat.not_lt_zero _)⟩, fun _ _ => rfl⟩⟩
  subst ez
  simp only [same_bool, beq_self_eq_true, rb, bool_b, Bool.not_true, Bool.false_eq_true, if_false, R.bind_assoc]
  -- the label
  have sl1 : sliceR (vec n S) none (some (k : Int)) = R.ret (.tuple ((vecL n S).take k)) := slice_to
  have sl2 : sliceR (vec n S) (some ((k + 1 : Nat) : Int)) none = R.ret (.tuple ((vecL n S).drop (k + 1))) := slice_from
  have hv : (vecL n S).length = n := vecL_length
  simp only [neg_int, sl1, rb, e1k, sl2]
  rw [add_tup (by rw [List.length_take]; omega) (by show 1 ≤ 100000; decide)]
  simp only [rb]
  rw [add_tup (by rw [List.length_append, List.length_take, List.length_singleton]; omega) (by rw [List.length_drop]; omega), vec_but hk]
  simp only [rb, tv]
  rw [show vec n (fun i => if i = k then -1 else S i) = vec n (endL S k) from rfl]
  have c2 := closed1_ok hb2 (end_lab (b := b2) (k := k) hs) (end_cov (b := b2) (k := k) hs)
  rw [b2n] at c2
  refine ok_step c2 fun d e => ?_
  obtain ⟨z, rfl, hz⟩ := e
  have := hz.mpr kE
  subst this
  simp only [isn_tt, rb, bool_b, Bool.false_eq_true, if_false, R.bind_assoc]
  have rep : ∀ p, p ≤ 100 → Ok (m_is_report b2.d (vec n S) (.tuple [.tuple [vec n (endL S k), .tuple ((List.range p).map fun i => (planP at' i).d)]])) fun d => ∃ z, d = .bool z ∧ (z = true ↔ Kept b2 (endL S k) ∧ ∃ Lw, Ways b2 p (planP at') S Lw ∧ ∀ k', k' < b2.n → Lw p k' = endL S k k') := fun p hp => by
    have := report1_ok (cm := 5) (p := p) (P := planP at') hb2 (by decide) (end_lab (b := b2) (k := k) hs) (end_cov (b := b2) (k := k) hs) hp fun i _ => planP_ok hmm2 i
    rw [b2n] at this ⊢
    exact this
  have rep2 := rep 2 (by decide)
  have rep1' := rep 1 (by decide)
  have rep0 := rep 0 (by decide)
  rw [plan2] at rep2
  rw [plan1] at rep1'
  rw [plan0] at rep0
  clear rep
  refine ok_step rep2 fun d e => ?_
  obtain ⟨z, rfl, hz⟩ := e
  have ez := bool_iff hz (q := ¬ ∃ j, j < n ∧ S j < tk j) ⟨fun q => ew.mp q.2, fun q => ⟨kE, ew.mpr q⟩⟩
  subst ez
  have hd : (decide (¬ ∃ j, j < n ∧ S j < tk j) == !decide (∃ j, j < n ∧ S j < tk j)) = true := by
    by_cases q : ∃ j, j < n ∧ S j < tk j <;> simp [q]
  simp only [not_b, rb, same_bool, hd, bool_b, Bool.not_true, Bool.false_eq_true, if_false, R.bind_assoc]
  have sl3 : ∀ x y : D, sliceR (.tuple [x, y]) none (some 1) = R.ret (.tuple [x]) := fun x y => slice_to (xs := [x, y]) (k := 1)
  simp only [sl3, rb]
  refine ok_step rep1' fun d e => ?_
  obtain ⟨z, rfl, hz⟩ := e
  have ez : z = false := by
    cases z with
    | false => rfl
    | true => exact absurd (hz.mp rfl).2 (end_ne1 hb2 hs (by rw [b2n]; exact hk) gk)
  subst ez
  simp only [is_ff, rb, bool_b, if_true, R.bind_assoc]
  refine ok_step rep0 fun d e => ?_
  obtain ⟨z, rfl, hz⟩ := e
  have ez : z = false := by
    cases z with
    | false => rfl
    | true => exact absurd (hz.mp rfl).2 (end_ne hs (by rw [b2n]; exact hk) rfl)
  subst ez
  simp only [is_ff, rb, okr]
  exact ⟨(), trivial⟩
theorem fin_o : o_law.wp (fun x => ∃ t, x = .rt (.bool true) t) fun _ _ => False := law_ok.w
end
end k46
/-! The walk. -/
namespace k46
open Pu PySem PySem.Spec PyProof.Rows L2 R
def top (i : Nat) : Stmt := PySem.Challenge.pw_mintlaw_k46_great_books.main.body.getD i (.Pass ⟨0, 0, 0, 0⟩)
def xbL : List Str := ["BadPlan"]
structure G (P : Program) (w : World) (K : PySem.W.Frag) (mg : Str → Option Value) (base : Heap) : Prop where
  bt : Bt mg
  at_plus : At K mg "plus" (top 1) ["stock", "other"]
  at_less : At K mg "less" (top 2) ["stock", "other"]
  at_times : At K mg "times" (top 3) ["count", "stock"]
  at_greater : At K mg "greater" (top 4) ["stock", "other"]
  at_covers : At K mg "covers" (top 5) ["stock", "other"]
  at_need_and_change : At K mg "need_and_change" (top 6) ["book", "run"]
  at_need : At K mg "need" (top 7) ["book", "run"]
  at_change : At K mg "change" (top 8) ["book", "run"]
  at_order_key : At K mg "order_key" (top 11) ["label"]
  at_in_order : At K mg "in_order" (top 12) ["rows"]
  at_moved : At K mg "moved" (top 13) ["label", "amounts"]
  at_behind : At K mg "behind" (top 14) ["book", "label", "run"]
  at_is_number : At K mg "is_number" (top 20) ["value", "least", "most"]
  at_is_entries : At K mg "is_entries" (top 21) ["value", "count", "least", "most"]
  at_is_extended : At K mg "is_extended" (top 22) ["book", "value"]
  at_is_step : At K mg "is_step" (top 23) ["book", "value", "nested"]
  at_are_steps : At K mg "are_steps" (top 24) ["book", "value", "nested"]
  at_is_run : At K mg "is_run" (top 25) ["book", "value"]
  at_is_plan : At K mg "is_plan" (top 27) ["book", "value"]
  at_pumped : At K mg "pumped" (top 28) ["book", "label", "run"]
  at_labels : At K mg "labels" (top 29) ["book", "stock", "plan"]
  at_end_of : At K mg "end_of" (top 30) ["book", "stock", "plan"]
  at_is_closed : At K mg "is_closed" (top 32) ["book", "stock", "rows"]
  at_are_apart : At K mg "are_apart" (top 33) ["rows"]
  at_is_report : At K mg "is_report" (top 34) ["book", "stock", "value"]
  at_law_same : At K mg "_law_same" (top 36) ["_law_a", "_law_b"]
  at_law_box : At K mg "_law_box" (top 37) ["_law_script", "_law_nodes"]
  at_law_load : At K mg "_law_load" (top 38) ["_law_box_here"]
  at_law_draw : At K mg "_law_draw" (top 39) ["_law_box_here", "_law_many"]
  at_law_entry : At K mg "_law_entry" (top 40) ["_law_box_here"]
  at_law_losing : At K mg "_law_losing" (top 41) ["_law_box_here", "_law_many", "_law_name"]
  at_law : At K mg "law" (top 42) ["_law_script"]
  tbl : ∀ y ∈ TNames, ∀ c P, PySem.W.tabIn K y = some (c, P) → GxR.TabB base mg c P
  tab_pumped : ∃ c P, PySem.W.tabIn K "pumped" = some (c, P)
  tab_is_closed : ∃ c P, PySem.W.tabIn K "is_closed" = some (c, P)
  tab_is_report : ∃ c P, PySem.W.tabIn K "is_report" = some (c, P)
  con_END : GCon K mg "END" (.int (-1))
  con_MAX_NESTED : GCon K mg "MAX_NESTED" (.int 30)
  x_BadPlan : XcB K mg "BadPlan"
theorem s_law_box : FnScope ["_law_script", "_law_nodes"] ["_law_script", "_law_nodes"] (defScope (top 37)) := ⟨rfl, rfl, rfl, by decide +kernel, rfl, by decide +kernel, by decide +kernel⟩
theorem d_law_box {P : Program} {w : World} {K : PySem.W.Frag} {mg : Str → Option Value} {base : Heap} (g : G P w K mg base) : Df P w K mg base CX0 1 "_law_box" (spBx K) := df_box g.at_law_box s_law_box g.bt (by decide +kernel) rfl
theorem s_law_load : FnScope ["_law_box_here", "_law_cells", "_law_cell", "_law_size", "_law_first", "_law_second"] ["_law_box_here"] (defScope (top 38)) := ⟨rfl, rfl, rfl, by decide +kernel, rfl, by decide +kernel, by decide +kernel⟩
theorem d_law_load {P : Program} {w : World} {K : PySem.W.Frag} {mg : Str → Option Value} {base : Heap} (g : G P w K mg base) : Df P w K mg base CX0 1 "_law_load" spLd := df_load (k := 0) g.at_law_load s_law_load fun X c e1 e2 e3 e4 e5 a l H0 Dn hr => by subst e1 e2 e3 e4 e5; exact bl_cells c (by decide +kernel) rfl (by decide +kernel) rfl (bl_pop c g.bt (by decide +kernel) (by decide +kernel) (by decide +kernel) rfl (by decide +kernel) rfl (by decide) (bl_set (i := 3) c (by decide +kernel) rfl (by decide) (by decide) (fun σ H o => (ie_if (it_ge (il_var (i := 2) c.toCw (by decide +kernel) rfl (by simp) σ H o) ic_int.ie) (ie_mulL ic_int (il_var (i := 2) c.toCw (by decide +kernel) rfl (by simp) σ H o) (by decide +kernel)) (ie_sub (ie_mulL ic_neg (il_var (i := 2) c.toCw (by decide +kernel) rfl (by simp) σ H o) (by decide +kernel)) ic_int.ie))) (bl_ifret (fun σ H o => it_ge (il_var (i := 3) c.toCw (by decide +kernel) rfl (by simp) σ H o) ic_int.ie) (bl_ret (fun σ H o => (il_var (i := 3) c.toCw (by decide +kernel) rfl (by simp) σ H o)) (fun z H gg dd => hr z H gg dd)) (bl_put c.toCw (by decide +kernel) rfl (.inr rfl) (fun σ H o => (ie_mod (ie_toint c.toCw g.bt (by decide +kernel) (ie_add (ie_add (ie_mul (il_box c.toCw (by decide +kernel) rfl (.inr rfl) (fun _ _ => rfl) σ H o) ic_int (by decide +kernel)) (ie_mul (il_var (i := 3) c.toCw (by decide +kernel) rfl (by simp) σ H o) ic_int (by decide +kernel))) ic_int.ie)) ic_int (by decide +kernel))) (bl_nil fun σ H o => (BL.less (I := []) (bl_set (i := 4) c (by decide +kernel) rfl (by decide) (by decide) (fun σ H o => (ie_mod (ie_toint c.toCw g.bt (by decide +kernel) (ie_add (ie_mul (il_box c.toCw (by decide +kernel) rfl (.inr rfl) (fun _ _ => rfl) σ H o) ic_int (by decide +kernel)) ic_int.ie)) ic_int (by decide +kernel))) (bl_set (i := 5) c (by decide +kernel) rfl (by decide) (by decide) (fun σ H o => (ie_mod (ie_toint c.toCw g.bt (by decide +kernel) (ie_add (ie_mul (il_var (i := 4) c.toCw (by decide +kernel) rfl (by simp) σ H o) ic_int (by decide +kernel)) ic_int.ie)) ic_int (by decide +kernel))) (bl_put c.toCw (by decide +kernel) rfl (.inr rfl) (fun σ H o => (ie_mod (ie_toint c.toCw g.bt (by decide +kernel) (ie_add (ie_mul (il_var (i := 5) c.toCw (by decide +kernel) rfl (by simp) σ H o) ic_int (by decide +kernel)) ic_int.ie)) ic_int (by decide +kernel))) (bl_ret (fun σ H o => (ie_add (ie_add (ie_mul (il_var (i := 4) c.toCw (by decide +kernel) rfl (by simp) σ H o) ic_int (by decide +kernel)) (ie_mul (il_var (i := 5) c.toCw (by decide +kernel) rfl (by simp) σ H o) ic_int (by decide +kernel))) (il_box c.toCw (by decide +kernel) rfl (.inr rfl) (fun _ _ => rfl) σ H o))) (fun z H gg dd => hr z H gg dd))))) (by simp)) σ H o)))) (bl_set (i := 4) c (by decide +kernel) rfl (by decide) (by decide) (fun σ H o => (ie_mod (ie_toint c.toCw g.bt (by decide +kernel) (ie_add (ie_mul (il_box c.toCw (by decide +kernel) rfl (.inr rfl) (fun _ _ => rfl) σ H o) ic_int (by decide +kernel)) ic_int.ie)) ic_int (by decide +kernel))) (bl_set (i := 5) c (by decide +kernel) rfl (by decide) (by decide) (fun σ H o => (ie_mod (ie_toint c.toCw g.bt (by decide +kernel) (ie_add (ie_mul (il_var (i := 4) c.toCw (by decide +kernel) rfl (by simp) σ H o) ic_int (by decide +kernel)) ic_int.ie)) ic_int (by decide +kernel))) (bl_put c.toCw (by decide +kernel) rfl (.inr rfl) (fun σ H o => (ie_mod (ie_toint c.toCw g.bt (by decide +kernel) (ie_add (ie_mul (il_var (i := 5) c.toCw (by decide +kernel) rfl (by simp) σ H o) ic_int (by decide +kernel)) ic_int.ie)) ic_int (by decide +kernel))) (bl_ret (fun σ H o => (ie_add (ie_add (ie_mul (il_var (i := 4) c.toCw (by decide +kernel) rfl (by simp) σ H o) ic_int (by decide +kernel)) (ie_mul (il_var (i := 5) c.toCw (by decide +kernel) rfl (by simp) σ H o) ic_int (by decide +kernel))) (il_box c.toCw (by decide +kernel) rfl (.inr rfl) (fun _ _ => rfl) σ H o))) (fun z H gg dd => hr z H gg dd)))))) (by decide)
theorem s_law_draw : FnScope ["_law_box_here", "_law_many", "_law_digit"] ["_law_box_here", "_law_many"] (defScope (top 39)) := ⟨rfl, rfl, rfl, by decide +kernel, rfl, by decide +kernel, by decide +kernel⟩
theorem d_law_draw {P : Program} {w : World} {K : PySem.W.Frag} {mg : Str → Option Value} {base : Heap} (g : G P w K mg base) : Df P w K mg base CX0 2 "_law_draw" (spD K 1 (l1 drawB)) := df_draw g.at_law_draw s_law_draw g.bt (d_law_load g) (by decide) (by decide +kernel) rfl
theorem s_law_entry : FnScope ["_law_box_here"] ["_law_box_here"] (defScope (top 40)) := ⟨rfl, rfl, rfl, by decide +kernel, rfl, by decide +kernel, by decide +kernel⟩
theorem r_law_entry {X : Cx} {k : Nat} {dra : Addr × Addr} (c : Cd CX0 k (wdD dra) ["_law_box_here"] (defScope (top 40)) X) (W : NoW (wdD dra)) (g : G X.prog X.w X.K X.mg X.base) (hk : 2 ≤ k) :
    Run X (wdD dra) (fun _ : Unit => [.no]) (fun e : Empty => e.elim) (fun _ : Unit => []) [.w] (defBody (top 40)) (o_law_entry ) :=
  (run_ret (t := ()) (ev_ix (Ev.look (EvL.ev (evl_lst (eva_consP ev_int (eva_consP ev_int (eva_consP ev_int (eva_consP ev_int (eva_consP (ev_callD1 c.toCw W (d_law_draw g) (Nat.le_trans (by decide) hk) (by decide +kernel) (i := 0) (by decide +kernel) (by rfl) (by rfl) ev_int) (eva_consP (ev_callD1 c.toCw W (d_law_draw g) (Nat.le_trans (by decide) hk) (by decide +kernel) (i := 0) (by decide +kernel) (by rfl) (by rfl) ev_int) (eva_consP ev_int eva_nil)))))))))) (Ev.look (ev_callD1 c.toCw W (d_law_draw g) (Nat.le_trans (by decide) hk) (by decide +kernel) (i := 0) (by decide +kernel) (by rfl) (by rfl) ev_int))) ht0)
theorem d_law_entry {P : Program} {w : World} {K : PySem.W.Frag} {mg : Str → Option Value} {base : Heap} (g : G P w K mg base) : Df P w K mg base CX0 3 "_law_entry" (spD K 0 (l0 m_law_entry)) :=
  df_ofD g.at_law_entry s_law_entry (n := 0) rfl (m := l0 m_law_entry) (o := l0 o_law_entry) (fun ds hl => match ds, hl with | [], _ => rfl)
    fun X a c e1 e2 e3 e4 e5 => by subst e1 e2 e3 e4 e5; exact fun ds hl => match ds, hl with | [], _ => r_law_entry c (noWD a) g (by decide) 
theorem s_law_losing : FnScope ["_law_box_here", "_law_many", "_law_name", "_law_take", "_law_give", "_law_k", "_law_entry_here"] ["_law_box_here", "_law_many", "_law_name"] (defScope (top 41)) := ⟨rfl, rfl, rfl, by decide +kernel, rfl, by decide +kernel, by decide +kernel⟩
theorem r_law_losing {X : Cx} {k : Nat} {dra : Addr × Addr} (c : Cd CX0 k (wdD dra) ["_law_box_here", "_law_many", "_law_name", "_law_take", "_law_give", "_law_k", "_law_entry_here"] (defScope (top 41)) X) (W : NoW (wdD dra)) (g : G X.prog X.w X.K X.mg X.base) (hk : 3 ≤ k) (v_law_many v_law_name : D) :
    Run X (wdD dra) (fun _ : Unit => [.no, .no, .no, .no, .no, .no, .no]) (fun e : Empty => e.elim) (fun _ : Unit => []) [.w, .d v_law_many, .d v_law_name, .no, .no, .no, .no] (defBody (top 41)) (o_law_losing v_law_many v_law_name) :=
  (run_setC c (i := 3) (by decide +kernel) (by rfl) (j := 5) (by decide +kernel) (by rfl) (by decide +kernel) (by rfl) (by rfl) (EvI.j (evi_r1 c.toCw g.bt (by decide +kernel) (Ev.look (ev_var c.toCw (i := 1) (by decide +kernel) (by rfl) (by rfl))))) (fun v_law_k s0 H0 C cl fp => have c3 := Cw.blk c.toCw cx0F s0 H0 _ C cl fp; have W4 := NoW.calm W; (ev_callD0 c3 W4 (d_law_entry g) (Nat.le_trans (by decide) hk) (by decide +kernel) (i := 0) (by decide +kernel) (by rfl) (by rfl) )) (fun v_law_take => (run_setC c (i := 4) (by decide +kernel) (by rfl) (j := 6) (by decide +kernel) (by rfl) (by decide +kernel) (by rfl) (by rfl) (evj_seq (Ev.look (ev_var c.toCw (i := 3) (by decide +kernel) (by rfl) (by rfl)))) (fun v_law_entry_here s0 H0 C cl fp => have c1 := Cw.blk c.toCw cx0F s0 H0 _ C cl fp; have W2 := NoW.calm W; (ev_ix (Ev.look (EvL.ev (evl_lst4 (ev_var c1 (i := 6) (by decide +kernel) (by rfl) (by rfl)) ev_int (ev_fdiv (Ev.look (ev_var c1 (i := 6) (by decide +kernel) (by rfl) (by rfl))) (Ev.look ev_int)) (ev_max c1 g.bt (by decide +kernel) (Ev.look ev_int) (Ev.look (ev_sub (Ev.look (ev_var c1 (i := 6) (by decide +kernel) (by rfl) (by rfl))) (Ev.look ev_int))))))) (Ev.look (ev_callD1 c1 W2 (d_law_draw g) (Nat.le_trans (by decide) hk) (by decide +kernel) (i := 0) (by decide +kernel) (by rfl) (by rfl) ev_int)))) (fun v_law_give => (run_ret (t := ()) (ev_tup4 (ev_var c.toCw (i := 2) (by decide +kernel) (by rfl) (by rfl)) (ev_tuple c.toCw g.bt (by decide +kernel) (Ev.look (ev_var c.toCw (i := 3) (by decide +kernel) (by rfl) (by rfl)))) (ev_mul (Ev.look (ev_tup1 ev_int)) (Ev.look (ev_var c.toCw (i := 1) (by decide +kernel) (by rfl) (by rfl)))) (ev_tuple c.toCw g.bt (by decide +kernel) (Ev.look (ev_var c.toCw (i := 4) (by decide +kernel) (by rfl) (by rfl))))) ht0)))))
theorem d_law_losing {P : Program} {w : World} {K : PySem.W.Frag} {mg : Str → Option Value} {base : Heap} (g : G P w K mg base) : Df P w K mg base CX0 4 "_law_losing" (spD K 2 (l2 m_law_losing)) :=
  df_ofD g.at_law_losing s_law_losing (n := 2) rfl (m := l2 m_law_losing) (o := l2 o_law_losing) (fun ds hl => match ds, hl with | [v_law_many, v_law_name], _ => rfl)
    fun X a c e1 e2 e3 e4 e5 => by subst e1 e2 e3 e4 e5; exact fun ds hl => match ds, hl with | [v_law_many, v_law_name], _ => r_law_losing c (noWD a) g (by decide) v_law_many v_law_name
theorem s_moved : FnScope ["label", "amounts", "k"] ["label", "amounts"] (defScope (top 13)) := ⟨rfl, rfl, rfl, by decide +kernel, rfl, by decide +kernel, by decide +kernel⟩
theorem r_moved {X : Cx} {k : Nat} (c : Cd CX0 k wd0 ["label", "amounts", "k"] (defScope (top 13)) X) (W : NoW wd0) (g : G X.prog X.w X.K X.mg X.base) (hk : 0 ≤ k) (v_label v_amounts : D) :
    Run X wd0 (fun _ : Unit => [.no, .no, .no]) (fun e : Empty => e.elim) (fun _ : Unit => []) [.d v_label, .d v_amounts, .no] (defBody (top 13)) (o_moved v_label v_amounts) :=
  (run_ret (t := ()) (ev_tuple c.toCw g.bt (by decide +kernel) (Ev.look (EvL.ev (evl_comp c.toCw (i := 2) (by decide +kernel) (by rfl) (by decide +kernel) (by rfl) (by rfl) (EvI.j (evi_r1 c.toCw g.bt (by decide +kernel) (Ev.look (ev_len c.toCw g.bt (by decide +kernel) (Ev.look (ev_var c.toCw (i := 0) (by decide +kernel) (by rfl) (by rfl))))))) (fun v_k s0 H0 C cl fp => have c1 := Cw.blk c.toCw cx0F s0 H0 _ C cl fp; have W2 := NoW.calm W; (ev_ifExp (evt_eq c1 (Ev.look (ev_ix (Ev.look (ev_var c1 (i := 0) (by decide +kernel) (by rfl) (by rfl))) (Ev.look (ev_var c1 (i := 2) (by decide +kernel) (by rfl) (by rfl))))) (Ev.look (ev_con c1 (by decide +kernel) g.con_END))) (ev_con c1 (by decide +kernel) g.con_END) (ev_add (Ev.look (ev_ix (Ev.look (ev_var c1 (i := 0) (by decide +kernel) (by rfl) (by rfl))) (Ev.look (ev_var c1 (i := 2) (by decide +kernel) (by rfl) (by rfl))))) (Ev.look (ev_ix (Ev.look (ev_var c1 (i := 1) (by decide +kernel) (by rfl) (by rfl))) (Ev.look (ev_var c1 (i := 2) (by decide +kernel) (by rfl) (by rfl)))))))))))) ht0)
theorem d_moved {P : Program} {w : World} {K : PySem.W.Frag} {mg : Str → Option Value} {base : Heap} (g : G P w K mg base) : Df P w K mg base CX0 1 "moved" (spP K 2 (l2 m_moved)) :=
  df_of g.at_moved s_moved (m := l2 m_moved) (o := l2 o_moved) (fun ds hl => match ds, hl with | [v_label, v_amounts], _ => rfl)
    fun X c e1 e2 e3 e4 e5 e6 => by subst e1 e2 e3 e4 e5; exact fun ds hl => match ds, hl with | [v_label, v_amounts], _ => r_moved c noW0 g (by decide) v_label v_amounts
theorem s_covers : FnScope ["stock", "other", "k"] ["stock", "other"] (defScope (top 5)) := ⟨rfl, rfl, rfl, by decide +kernel, rfl, by decide +kernel, by decide +kernel⟩
theorem r_covers {X : Cx} {k : Nat} (c : Cd CX0 k wd0 ["stock", "other", "k"] (defScope (top 5)) X) (W : NoW wd0) (g : G X.prog X.w X.K X.mg X.base) (hk : 0 ≤ k) (v_stock v_other : D) :
    Run X wd0 (fun _ : Unit => [.no, .no, .no]) (fun e : Empty => e.elim) (fun _ : Unit => []) [.d v_stock, .d v_other, .no] (defBody (top 5)) (o_covers v_stock v_other) :=
  (run_for (S1 := Unit) (eS1 := fun (s1 : Unit) => [.d v_stock, .d v_other, .no]) (s0 := ()) c (i := 2) (by decide +kernel) (by rfl) (evi_r1 c.toCw g.bt (by decide +kernel) (Ev.look (ev_len c.toCw g.bt (by decide +kernel) (Ev.look (ev_var c.toCw (i := 0) (by decide +kernel) (by rfl) (by rfl)))))) (le_eq (le_eq (le_no le_nil))) (fun s1 v_k => (run_if1 (evt_w (evw_and (evt_ne c.toCw (Ev.look (ev_ix (Ev.look (ev_var c.toCw (i := 0) (by decide +kernel) (by rfl) (by rfl))) (Ev.look (ev_var c.toCw (i := 2) (by decide +kernel) (by rfl) (by rfl))))) (Ev.look (ev_neg (Ev.look ev_int)))) (evw_and1 (evt_w (evw_or (evt_eq c.toCw (Ev.look (ev_ix (Ev.look (ev_var c.toCw (i := 1) (by decide +kernel) (by rfl) (by rfl))) (Ev.look (ev_var c.toCw (i := 2) (by decide +kernel) (by rfl) (by rfl))))) (Ev.look (ev_neg (Ev.look ev_int)))) (evw_or1 (evt_lt (Ev.look (ev_ix (Ev.look (ev_var c.toCw (i := 0) (by decide +kernel) (by rfl) (by rfl))) (Ev.look (ev_var c.toCw (i := 2) (by decide +kernel) (by rfl) (by rfl))))) (Ev.look (ev_ix (Ev.look (ev_var c.toCw (i := 1) (by decide +kernel) (by rfl) (by rfl))) (Ev.look (ev_var c.toCw (i := 2) (by decide +kernel) (by rfl) (by rfl)))))))))))) (run_ret (t := ()) ev_bl ht0) (run_nil (le_eq (le_eq (le_no le_nil)))))) (fun s1 => (run_ret (t := ()) ev_bl ht0)))
theorem d_covers {P : Program} {w : World} {K : PySem.W.Frag} {mg : Str → Option Value} {base : Heap} (g : G P w K mg base) : Df P w K mg base CX0 1 "covers" (spP K 2 (l2 m_covers)) :=
  df_of g.at_covers s_covers (m := l2 m_covers) (o := l2 o_covers) (fun ds hl => match ds, hl with | [v_stock, v_other], _ => rfl)
    fun X c e1 e2 e3 e4 e5 e6 => by subst e1 e2 e3 e4 e5; exact fun ds hl => match ds, hl with | [v_stock, v_other], _ => r_covers c noW0 g (by decide) v_stock v_other
theorem s_greater : FnScope ["stock", "other", "k"] ["stock", "other"] (defScope (top 4)) := ⟨rfl, rfl, rfl, by decide +kernel, rfl, by decide +kernel, by decide +kernel⟩
theorem r_greater {X : Cx} {k : Nat} (c : Cd CX0 k wd0 ["stock", "other", "k"] (defScope (top 4)) X) (W : NoW wd0) (g : G X.prog X.w X.K X.mg X.base) (hk : 0 ≤ k) (v_stock v_other : D) :
    Run X wd0 (fun _ : Unit => [.no, .no, .no]) (fun e : Empty => e.elim) (fun _ : Unit => []) [.d v_stock, .d v_other, .no] (defBody (top 4)) (o_greater v_stock v_other) :=
  (run_ret (t := ()) (ev_tuple c.toCw g.bt (by decide +kernel) (Ev.look (EvL.ev (evl_comp c.toCw (i := 2) (by decide +kernel) (by rfl) (by decide +kernel) (by rfl) (by rfl) (EvI.j (evi_r1 c.toCw g.bt (by decide +kernel) (Ev.look (ev_len c.toCw g.bt (by decide +kernel) (Ev.look (ev_var c.toCw (i := 0) (by decide +kernel) (by rfl) (by rfl))))))) (fun v_k s0 H0 C cl fp => have c1 := Cw.blk c.toCw cx0F s0 H0 _ C cl fp; have W2 := NoW.calm W; (ev_max c1 g.bt (by decide +kernel) (Ev.look (ev_ix (Ev.look (ev_var c1 (i := 0) (by decide +kernel) (by rfl) (by rfl))) (Ev.look (ev_var c1 (i := 2) (by decide +kernel) (by rfl) (by rfl))))) (Ev.look (ev_ix (Ev.look (ev_var c1 (i := 1) (by decide +kernel) (by rfl) (by rfl))) (Ev.look (ev_var c1 (i := 2) (by decide +kernel) (by rfl) (by rfl))))))))))) ht0)
theorem d_greater {P : Program} {w : World} {K : PySem.W.Frag} {mg : Str → Option Value} {base : Heap} (g : G P w K mg base) : Df P w K mg base CX0 1 "greater" (spP K 2 (l2 m_greater)) :=
  df_of g.at_greater s_greater (m := l2 m_greater) (o := l2 o_greater) (fun ds hl => match ds, hl with | [v_stock, v_other], _ => rfl)
    fun X c e1 e2 e3 e4 e5 e6 => by subst e1 e2 e3 e4 e5; exact fun ds hl => match ds, hl with | [v_stock, v_other], _ => r_greater c noW0 g (by decide) v_stock v_other
theorem s_plus : FnScope ["stock", "other", "k"] ["stock", "other"] (defScope (top 1)) := ⟨rfl, rfl, rfl, by decide +kernel, rfl, by decide +kernel, by decide +kernel⟩
theorem r_plus {X : Cx} {k : Nat} (c : Cd CX0 k wd0 ["stock", "other", "k"] (defScope (top 1)) X) (W : NoW wd0) (g : G X.prog X.w X.K X.mg X.base) (hk : 0 ≤ k) (v_stock v_other : D) :
    Run X wd0 (fun _ : Unit => [.no, .no, .no]) (fun e : Empty => e.elim) (fun _ : Unit => []) [.d v_stock, .d v_other, .no] (defBody (top 1)) (o_plus v_stock v_other) :=
  (run_ret (t := ()) (ev_tuple c.toCw g.bt (by decide +kernel) (Ev.look (EvL.ev (evl_comp c.toCw (i := 2) (by decide +kernel) (by rfl) (by decide +kernel) (by rfl) (by rfl) (EvI.j (evi_r1 c.toCw g.bt (by decide +kernel) (Ev.look (ev_len c.toCw g.bt (by decide +kernel) (Ev.look (ev_var c.toCw (i := 0) (by decide +kernel) (by rfl) (by rfl))))))) (fun v_k s0 H0 C cl fp => have c1 := Cw.blk c.toCw cx0F s0 H0 _ C cl fp; have W2 := NoW.calm W; (ev_add (Ev.look (ev_ix (Ev.look (ev_var c1 (i := 0) (by decide +kernel) (by rfl) (by rfl))) (Ev.look (ev_var c1 (i := 2) (by decide +kernel) (by rfl) (by rfl))))) (Ev.look (ev_ix (Ev.look (ev_var c1 (i := 1) (by decide +kernel) (by rfl) (by rfl))) (Ev.look (ev_var c1 (i := 2) (by decide +kernel) (by rfl) (by rfl))))))))))) ht0)
theorem d_plus {P : Program} {w : World} {K : PySem.W.Frag} {mg : Str → Option Value} {base : Heap} (g : G P w K mg base) : Df P w K mg base CX0 1 "plus" (spP K 2 (l2 m_plus)) :=
  df_of g.at_plus s_plus (m := l2 m_plus) (o := l2 o_plus) (fun ds hl => match ds, hl with | [v_stock, v_other], _ => rfl)
    fun X c e1 e2 e3 e4 e5 e6 => by subst e1 e2 e3 e4 e5; exact fun ds hl => match ds, hl with | [v_stock, v_other], _ => r_plus c noW0 g (by decide) v_stock v_other
theorem s_less : FnScope ["stock", "other", "k"] ["stock", "other"] (defScope (top 2)) := ⟨rfl, rfl, rfl, by decide +kernel, rfl, by decide +kernel, by decide +kernel⟩
theorem r_less {X : Cx} {k : Nat} (c : Cd CX0 k wd0 ["stock", "other", "k"] (defScope (top 2)) X) (W : NoW wd0) (g : G X.prog X.w X.K X.mg X.base) (hk : 0 ≤ k) (v_stock v_other : D) :
    Run X wd0 (fun _ : Unit => [.no, .no, .no]) (fun e : Empty => e.elim) (fun _ : Unit => []) [.d v_stock, .d v_other, .no] (defBody (top 2)) (o_less v_stock v_other) :=
  (run_ret (t := ()) (ev_tuple c.toCw g.bt (by decide +kernel) (Ev.look (EvL.ev (evl_comp c.toCw (i := 2) (by decide +kernel) (by rfl) (by decide +kernel) (by rfl) (by rfl) (EvI.j (evi_r1 c.toCw g.bt (by decide +kernel) (Ev.look (ev_len c.toCw g.bt (by decide +kernel) (Ev.look (ev_var c.toCw (i := 0) (by decide +kernel) (by rfl) (by rfl))))))) (fun v_k s0 H0 C cl fp => have c1 := Cw.blk c.toCw cx0F s0 H0 _ C cl fp; have W2 := NoW.calm W; (ev_sub (Ev.look (ev_ix (Ev.look (ev_var c1 (i := 0) (by decide +kernel) (by rfl) (by rfl))) (Ev.look (ev_var c1 (i := 2) (by decide +kernel) (by rfl) (by rfl))))) (Ev.look (ev_ix (Ev.look (ev_var c1 (i := 1) (by decide +kernel) (by rfl) (by rfl))) (Ev.look (ev_var c1 (i := 2) (by decide +kernel) (by rfl) (by rfl))))))))))) ht0)
theorem d_less {P : Program} {w : World} {K : PySem.W.Frag} {mg : Str → Option Value} {base : Heap} (g : G P w K mg base) : Df P w K mg base CX0 1 "less" (spP K 2 (l2 m_less)) :=
  df_of g.at_less s_less (m := l2 m_less) (o := l2 o_less) (fun ds hl => match ds, hl with | [v_stock, v_other], _ => rfl)
    fun X c e1 e2 e3 e4 e5 e6 => by subst e1 e2 e3 e4 e5; exact fun ds hl => match ds, hl with | [v_stock, v_other], _ => r_less c noW0 g (by decide) v_stock v_other
theorem s_times : FnScope ["count", "stock", "entry"] ["count", "stock"] (defScope (top 3)) := ⟨rfl, rfl, rfl, by decide +kernel, rfl, by decide +kernel, by decide +kernel⟩
theorem r_times {X : Cx} {k : Nat} (c : Cd CX0 k wd0 ["count", "stock", "entry"] (defScope (top 3)) X) (W : NoW wd0) (g : G X.prog X.w X.K X.mg X.base) (hk : 0 ≤ k) (v_count v_stock : D) :
    Run X wd0 (fun _ : Unit => [.no, .no, .no]) (fun e : Empty => e.elim) (fun _ : Unit => []) [.d v_count, .d v_stock, .no] (defBody (top 3)) (o_times v_count v_stock) :=
  (run_ret (t := ()) (ev_tuple c.toCw g.bt (by decide +kernel) (Ev.look (EvL.ev (evl_comp c.toCw (i := 2) (by decide +kernel) (by rfl) (by decide +kernel) (by rfl) (by rfl) (evj_seq (Ev.look (ev_var c.toCw (i := 1) (by decide +kernel) (by rfl) (by rfl)))) (fun v_entry s0 H0 C cl fp => have c1 := Cw.blk c.toCw cx0F s0 H0 _ C cl fp; have W2 := NoW.calm W; (ev_mul (Ev.look (ev_var c1 (i := 0) (by decide +kernel) (by rfl) (by rfl))) (Ev.look (ev_var c1 (i := 2) (by decide +kernel) (by rfl) (by rfl))))))))) ht0)
theorem d_times {P : Program} {w : World} {K : PySem.W.Frag} {mg : Str → Option Value} {base : Heap} (g : G P w K mg base) : Df P w K mg base CX0 1 "times" (spP K 2 (l2 m_times)) :=
  df_of g.at_times s_times (m := l2 m_times) (o := l2 o_times) (fun ds hl => match ds, hl with | [v_count, v_stock], _ => rfl)
    fun X c e1 e2 e3 e4 e5 e6 => by subst e1 e2 e3 e4 e5; exact fun ds hl => match ds, hl with | [v_count, v_stock], _ => r_times c noW0 g (by decide) v_count v_stock
theorem s_need_and_change : FnScope ["book", "run", "zero", "needed", "changed", "step", "take", "step_need", "step_change", "once", "inner"] ["book", "run"] (defScope (top 6)) := ⟨rfl, rfl, rfl, by decide +kernel, rfl, by decide +kernel, by decide +kernel⟩
theorem r_need_and_change {X : Cx} {k : Nat} (c : Cd CX0 k wd0 ["book", "run", "zero", "needed", "changed", "step", "take", "step_need", "step_change", "once", "inner"] (defScope (top 6)) X) (W : NoW wd0) (g : G X.prog X.w X.K X.mg X.base) (hk : 1 ≤ k) {j : Nat} {rec : D → D → R D} (hrec : Df X.prog X.w X.K X.mg X.base CX0 j "need_and_change" (spP X.K 2 (l2 rec))) (hj : j + 0 ≤ k) (hb : 2 ≤ j) (v_book v_run : D) :
    Run X wd0 (fun _ : Unit => [.no, .no, .no, .no, .no, .no, .no, .no, .no, .no, .no]) (fun e : Empty => e.elim) (fun _ : Unit => []) [.d v_book, .d v_run, .no, .no, .no, .no, .no, .no, .no, .no, .no] (defBody (top 6)) (o_need_and_change rec v_book v_run) :=
  (run_set c (i := 2) (by decide +kernel) (by rfl) (ev_mul (Ev.look (ev_tup1 ev_int)) (Ev.look (ev_len c.toCw g.bt (by decide +kernel) (Ev.look (ev_ix (Ev.look (ev_var c.toCw (i := 0) (by decide +kernel) (by rfl) (by rfl))) (Ev.look ev_int)))))) (fun v_zero => (run_set c (i := 3) (by decide +kernel) (by rfl) (ev_var c.toCw (i := 2) (by decide +kernel) (by rfl) (by rfl)) (fun v_needed => (run_set c (i := 4) (by decide +kernel) (by rfl) (ev_var c.toCw (i := 2) (by decide +kernel) (by rfl) (by rfl)) (fun v_changed => (run_for (S1 := D × D) (eS1 := fun (s1 : D × D) => [.d v_book, .d v_run, .d v_zero, .d s1.1, .d s1.2, .no, .no, .no, .no, .no, .no]) (s0 := (v_needed, v_changed)) c (i := 5) (by decide +kernel) (by rfl) (evi_seq (ev_var c.toCw (i := 1) (by decide +kernel) (by rfl) (by rfl))) (le_eq (le_eq (le_eq (le_eq (le_eq (le_no (le_no (le_no (le_no (le_no (le_no le_nil))))))))))) (fun s1 v_step => (run_if (eS1 := fun (s2 : D × D) => [.d v_book, .d v_run, .d v_zero, .d s1.1, .d s1.2, .d v_step, .no, .d s2.1, .d s2.2, .no, .no]) (evt_eq c.toCw (Ev.look (ev_ix (Ev.look (ev_var c.toCw (i := 5) (by decide +kernel) (by rfl) (by rfl))) (Ev.look ev_int))) (Ev.look ev_str)) (run_set c (i := 6) (by decide +kernel) (by rfl) (ev_ix (Ev.look (ev_ix (Ev.look (ev_ix (Ev.look (ev_var c.toCw (i := 0) (by decide +kernel) (by rfl) (by rfl))) (Ev.look ev_int))) (Ev.look (ev_ix (Ev.look (ev_var c.toCw (i := 5) (by decide +kernel) (by rfl) (by rfl))) (Ev.look ev_int))))) (Ev.look ev_int)) (fun v_take => (run_set c (i := 7) (by decide +kernel) (by rfl) (ev_var c.toCw (i := 6) (by decide +kernel) (by rfl) (by rfl)) (fun v_step_need => (run_set c (i := 8) (by decide +kernel) (by rfl) (ev_call2 c.toCw W (d_less g) (Nat.le_trans (by decide) hk) (by decide +kernel) (ev_ix (Ev.look (ev_ix (Ev.look (ev_ix (Ev.look (ev_var c.toCw (i := 0) (by decide +kernel) (by rfl) (by rfl))) (Ev.look ev_int))) (Ev.look (ev_ix (Ev.look (ev_var c.toCw (i := 5) (by decide +kernel) (by rfl) (by rfl))) (Ev.look ev_int))))) (Ev.look ev_int)) (ev_var c.toCw (i := 6) (by decide +kernel) (by rfl) (by rfl))) (fun v_step_change => (run_nil (le_eq (le_eq (le_eq (le_eq (le_eq (le_eq (le_no (le_eq (le_eq (le_no (le_no le_nil)))))))))))))))))) (run_unp2 c (i := 9) (j := 10) (by decide +kernel) (by rfl) (by decide +kernel) (by rfl) (ev_call2 c.toCw W hrec (by omega) (by decide +kernel) (ev_var c.toCw (i := 0) (by decide +kernel) (by rfl) (by rfl)) (ev_ix (Ev.look (ev_var c.toCw (i := 5) (by decide +kernel) (by rfl) (by rfl))) (Ev.look ev_int))) (fun v_once v_inner => (run_set c (i := 7) (by decide +kernel) (by rfl) (ev_call2 c.toCw W (d_greater g) (Nat.le_trans (by decide) hk) (by decide +kernel) (ev_var c.toCw (i := 9) (by decide +kernel) (by rfl) (by rfl)) (ev_call2 c.toCw W (d_less g) (Nat.le_trans (by decide) hk) (by decide +kernel) (ev_var c.toCw (i := 9) (by decide +kernel) (by rfl) (by rfl)) (ev_call2 c.toCw W (d_times g) (Nat.le_trans (by decide) hk) (by decide +kernel) (ev_sub (Ev.look (ev_ix (Ev.look (ev_var c.toCw (i := 5) (by decide +kernel) (by rfl) (by rfl))) (Ev.look ev_int))) (Ev.look ev_int)) (ev_var c.toCw (i := 10) (by decide +kernel) (by rfl) (by rfl))))) (fun v_step_need => (run_set c (i := 8) (by decide +kernel) (by rfl) (ev_call2 c.toCw W (d_times g) (Nat.le_trans (by decide) hk) (by decide +kernel) (ev_ix (Ev.look (ev_var c.toCw (i := 5) (by decide +kernel) (by rfl) (by rfl))) (Ev.look ev_int)) (ev_var c.toCw (i := 10) (by decide +kernel) (by rfl) (by rfl))) (fun v_step_change => (run_nil (le_eq (le_eq (le_eq (le_eq (le_eq (le_eq (le_no (le_eq (le_eq (le_no (le_no le_nil)))))))))))))))))) (fun s2 => (run_set c (i := 3) (by decide +kernel) (by rfl) (ev_call2 c.toCw W (d_greater g) (Nat.le_trans (by decide) hk) (by decide +kernel) (ev_var c.toCw (i := 3) (by decide +kernel) (by rfl) (by rfl)) (ev_call2 c.toCw W (d_less g) (Nat.le_trans (by decide) hk) (by decide +kernel) (ev_var c.toCw (i := 7) (by decide +kernel) (by rfl) (by rfl)) (ev_var c.toCw (i := 4) (by decide +kernel) (by rfl) (by rfl)))) (fun v_needed => (run_set c (i := 4) (by decide +kernel) (by rfl) (ev_call2 c.toCw W (d_plus g) (Nat.le_trans (by decide) hk) (by decide +kernel) (ev_var c.toCw (i := 4) (by decide +kernel) (by rfl) (by rfl)) (ev_var c.toCw (i := 8) (by decide +kernel) (by rfl) (by rfl))) (fun v_changed => (run_nil (le_eq (le_eq (le_eq (le_eq (le_eq (le_no (le_no (le_no (le_no (le_no (le_no le_nil))))))))))))))))))) (fun s1 => (run_ret (t := ()) (ev_tup2 (ev_var c.toCw (i := 3) (by decide +kernel) (by rfl) (by rfl)) (ev_var c.toCw (i := 4) (by decide +kernel) (by rfl) (by rfl))) ht0)))))))))
theorem d_need_and_change {P : Program} {w : World} {K : PySem.W.Frag} {mg : Str → Option Value} {base : Heap} (g : G P w K mg base) : ∀ n : Nat, Df P w K mg base CX0 (2 + 1 * n) "need_and_change" (spP K 2 (l2 (m_need_and_change n)))
  | 0 => df_bad g.at_need_and_change fun ds => (by unfold l2; split <;> rfl)
  | n + 1 => df_of (k := 2 + 1 * n + 0) g.at_need_and_change s_need_and_change (m := l2 (m_need_and_change (n + 1))) (o := l2 (o_need_and_change (m_need_and_change n))) (fun ds hl => match ds, hl with | [v_book, v_run], _ => rfl)
      fun X c e1 e2 e3 e4 e5 e6 => by subst e1 e2 e3 e4 e5; exact fun ds hl => match ds, hl with | [v_book, v_run], _ => r_need_and_change (k := 2 + 1 * n + 0) c noW0 g (by omega) (d_need_and_change g n) (by omega) (by omega) v_book v_run
theorem s_change : FnScope ["book", "run"] ["book", "run"] (defScope (top 8)) := ⟨rfl, rfl, rfl, by decide +kernel, rfl, by decide +kernel, by decide +kernel⟩
theorem r_change {X : Cx} {k : Nat} (c : Cd CX0 k wd0 ["book", "run"] (defScope (top 8)) X) (W : NoW wd0) (g : G X.prog X.w X.K X.mg X.base) (hk : 8 ≤ k) (v_book v_run : D) :
    Run X wd0 (fun _ : Unit => [.no, .no]) (fun e : Empty => e.elim) (fun _ : Unit => []) [.d v_book, .d v_run] (defBody (top 8)) (o_change v_book v_run) :=
  (run_ret (t := ()) (ev_ix (Ev.look (ev_call2 c.toCw W (d_need_and_change g 6) (Nat.le_trans (by decide) hk) (by decide +kernel) (ev_var c.toCw (i := 0) (by decide +kernel) (by rfl) (by rfl)) (ev_var c.toCw (i := 1) (by decide +kernel) (by rfl) (by rfl)))) (Ev.look ev_int)) ht0)
theorem d_change {P : Program} {w : World} {K : PySem.W.Frag} {mg : Str → Option Value} {base : Heap} (g : G P w K mg base) : Df P w K mg base CX0 9 "change" (spP K 2 (l2 m_change)) :=
  df_of g.at_change s_change (m := l2 m_change) (o := l2 o_change) (fun ds hl => match ds, hl with | [v_book, v_run], _ => rfl)
    fun X c e1 e2 e3 e4 e5 e6 => by subst e1 e2 e3 e4 e5; exact fun ds hl => match ds, hl with | [v_book, v_run], _ => r_change c noW0 g (by decide) v_book v_run
theorem s_need : FnScope ["book", "run"] ["book", "run"] (defScope (top 7)) := ⟨rfl, rfl, rfl, by decide +kernel, rfl, by decide +kernel, by decide +kernel⟩
theorem r_need {X : Cx} {k : Nat} (c : Cd CX0 k wd0 ["book", "run"] (defScope (top 7)) X) (W : NoW wd0) (g : G X.prog X.w X.K X.mg X.base) (hk : 8 ≤ k) (v_book v_run : D) :
    Run X wd0 (fun _ : Unit => [.no, .no]) (fun e : Empty => e.elim) (fun _ : Unit => []) [.d v_book, .d v_run] (defBody (top 7)) (o_need v_book v_run) :=
  (run_ret (t := ()) (ev_ix (Ev.look (ev_call2 c.toCw W (d_need_and_change g 6) (Nat.le_trans (by decide) hk) (by decide +kernel) (ev_var c.toCw (i := 0) (by decide +kernel) (by rfl) (by rfl)) (ev_var c.toCw (i := 1) (by decide +kernel) (by rfl) (by rfl)))) (Ev.look ev_int)) ht0)
theorem d_need {P : Program} {w : World} {K : PySem.W.Frag} {mg : Str → Option Value} {base : Heap} (g : G P w K mg base) : Df P w K mg base CX0 9 "need" (spP K 2 (l2 m_need)) :=
  df_of g.at_need s_need (m := l2 m_need) (o := l2 o_need) (fun ds hl => match ds, hl with | [v_book, v_run], _ => rfl)
    fun X c e1 e2 e3 e4 e5 e6 => by subst e1 e2 e3 e4 e5; exact fun ds hl => match ds, hl with | [v_book, v_run], _ => r_need c noW0 g (by decide) v_book v_run
theorem s_behind : FnScope ["book", "label", "run"] ["book", "label", "run"] (defScope (top 14)) := ⟨rfl, rfl, rfl, by decide +kernel, rfl, by decide +kernel, by decide +kernel⟩
theorem r_behind {X : Cx} {k : Nat} (c : Cd CX0 k wd0 ["book", "label", "run"] (defScope (top 14)) X) (W : NoW wd0) (g : G X.prog X.w X.K X.mg X.base) (hk : 9 ≤ k) (v_book v_label v_run : D) :
    Run X wd0 (fun _ : Unit => [.no, .no, .no]) (fun e : Empty => e.elim) (fun _ : Unit => []) [.d v_book, .d v_label, .d v_run] (defBody (top 14)) (o_behind v_book v_label v_run) :=
  (run_ifx (eE := fun e => e.elim) (evt_not (evt_val (Ev.look (ev_call2 c.toCw W (d_covers g) (Nat.le_trans (by decide) hk) (by decide +kernel) (ev_var c.toCw (i := 1) (by decide +kernel) (by rfl) (by rfl)) (ev_call2 c.toCw W (d_need g) (Nat.le_trans (by decide) hk) (by decide +kernel) (ev_var c.toCw (i := 0) (by decide +kernel) (by rfl) (by rfl)) (ev_var c.toCw (i := 2) (by decide +kernel) (by rfl) (by rfl))))))) (run_ret (t := ()) ev_non ht0) (run_ret (t := ()) (ev_call2 c.toCw W (d_moved g) (Nat.le_trans (by decide) hk) (by decide +kernel) (ev_var c.toCw (i := 1) (by decide +kernel) (by rfl) (by rfl)) (ev_call2 c.toCw W (d_change g) (Nat.le_trans (by decide) hk) (by decide +kernel) (ev_var c.toCw (i := 0) (by decide +kernel) (by rfl) (by rfl)) (ev_var c.toCw (i := 2) (by decide +kernel) (by rfl) (by rfl)))) ht0))
theorem d_behind {P : Program} {w : World} {K : PySem.W.Frag} {mg : Str → Option Value} {base : Heap} (g : G P w K mg base) : Df P w K mg base CX0 10 "behind" (spP K 3 (l3 m_behind)) :=
  df_of g.at_behind s_behind (m := l3 m_behind) (o := l3 o_behind) (fun ds hl => match ds, hl with | [v_book, v_label, v_run], _ => rfl)
    fun X c e1 e2 e3 e4 e5 e6 => by subst e1 e2 e3 e4 e5; exact fun ds hl => match ds, hl with | [v_book, v_label, v_run], _ => r_behind c noW0 g (by decide) v_book v_label v_run
theorem s_is_number : FnScope ["value", "least", "most"] ["value", "least", "most"] (defScope (top 20)) := ⟨rfl, rfl, rfl, by decide +kernel, rfl, by decide +kernel, by decide +kernel⟩
theorem r_is_number {X : Cx} {k : Nat} (c : Cd CX0 k wd0 ["value", "least", "most"] (defScope (top 20)) X) (W : NoW wd0) (g : G X.prog X.w X.K X.mg X.base) (hk : 0 ≤ k) (v_value v_least v_most : D) :
    Run X wd0 (fun _ : Unit => [.no, .no, .no]) (fun e : Empty => e.elim) (fun _ : Unit => []) [.d v_value, .d v_least, .d v_most] (defBody (top 20)) (o_is_number v_value v_least v_most) :=
  (run_ifx (eE := fun e => e.elim) (evt_w (evw_or (evt_not (evt_val (Ev.look (ev_isi (T := "int") c.toCw (by decide +kernel) g.bt.isinstance bv_isi (by decide +kernel) g.bt.int bv_int (Ev.look (ev_var c.toCw (i := 0) (by decide +kernel) (by rfl) (by rfl))))))) (evw_or (evt_val (Ev.look (ev_isi (T := "bool") c.toCw (by decide +kernel) g.bt.isinstance bv_isi (by decide +kernel) g.bt.bool bv_bool (Ev.look (ev_var c.toCw (i := 0) (by decide +kernel) (by rfl) (by rfl)))))) (evw_or1 (evt_lt (Ev.look (ev_var c.toCw (i := 0) (by decide +kernel) (by rfl) (by rfl))) (Ev.look (ev_var c.toCw (i := 1) (by decide +kernel) (by rfl) (by rfl)))))))) (run_ret (t := ()) ev_bl ht0) (run_ret (t := ()) (ev_or (ev_is (Ev.look (ev_var c.toCw (i := 2) (by decide +kernel) (by rfl) (by rfl))) (Ev.look ev_non)) (ev_one (ev_le (Ev.look (ev_var c.toCw (i := 0) (by decide +kernel) (by rfl) (by rfl))) (Ev.look (ev_var c.toCw (i := 2) (by decide +kernel) (by rfl) (by rfl)))))) ht0))
theorem d_is_number {P : Program} {w : World} {K : PySem.W.Frag} {mg : Str → Option Value} {base : Heap} (g : G P w K mg base) : Df P w K mg base CX0 1 "is_number" (spP K 3 (l3 m_is_number)) :=
  df_of g.at_is_number s_is_number (m := l3 m_is_number) (o := l3 o_is_number) (fun ds hl => match ds, hl with | [v_value, v_least, v_most], _ => rfl)
    fun X c e1 e2 e3 e4 e5 e6 => by subst e1 e2 e3 e4 e5; exact fun ds hl => match ds, hl with | [v_value, v_least, v_most], _ => r_is_number c noW0 g (by decide) v_value v_least v_most
theorem s_is_entries : FnScope ["value", "count", "least", "most", "entry"] ["value", "count", "least", "most"] (defScope (top 21)) := ⟨rfl, rfl, rfl, by decide +kernel, rfl, by decide +kernel, by decide +kernel⟩
theorem r_is_entries {X : Cx} {k : Nat} (c : Cd CX0 k wd0 ["value", "count", "least", "most", "entry"] (defScope (top 21)) X) (W : NoW wd0) (g : G X.prog X.w X.K X.mg X.base) (hk : 1 ≤ k) (v_value v_count v_least v_most : D) :
    Run X wd0 (fun _ : Unit => [.no, .no, .no, .no, .no]) (fun e : Empty => e.elim) (fun _ : Unit => []) [.d v_value, .d v_count, .d v_least, .d v_most, .no] (defBody (top 21)) (o_is_entries v_value v_count v_least v_most) :=
  (run_ifx (eE := fun e => e.elim) (evt_w (evw_or (evt_not (evt_val (Ev.look (ev_isi (T := "tuple") c.toCw (by decide +kernel) g.bt.isinstance bv_isi (by decide +kernel) g.bt.tuple bv_tuple (Ev.look (ev_var c.toCw (i := 0) (by decide +kernel) (by rfl) (by rfl))))))) (evw_or1 (evt_ne c.toCw (Ev.look (ev_len c.toCw g.bt (by decide +kernel) (Ev.look (ev_var c.toCw (i := 0) (by decide +kernel) (by rfl) (by rfl))))) (Ev.look (ev_var c.toCw (i := 1) (by decide +kernel) (by rfl) (by rfl))))))) (run_ret (t := ()) ev_bl ht0) (run_ret (t := ()) (ev_all c.toCw g.bt (by decide +kernel) (Ev.look (EvL.ev (evl_comp c.toCw (i := 4) (by decide +kernel) (by rfl) (by decide +kernel) (by rfl) (by rfl) (evj_seq (Ev.look (ev_var c.toCw (i := 0) (by decide +kernel) (by rfl) (by rfl)))) (fun v_entry s0 H0 C cl fp => have c1 := Cw.blk c.toCw cx0F s0 H0 _ C cl fp; have W2 := NoW.calm W; (ev_call3 c1 W2 (d_is_number g) (Nat.le_trans (by decide) hk) (by decide +kernel) (ev_var c1 (i := 4) (by decide +kernel) (by rfl) (by rfl)) (ev_var c1 (i := 2) (by decide +kernel) (by rfl) (by rfl)) (ev_var c1 (i := 3) (by decide +kernel) (by rfl) (by rfl)))))))) ht0))
theorem d_is_entries {P : Program} {w : World} {K : PySem.W.Frag} {mg : Str → Option Value} {base : Heap} (g : G P w K mg base) : Df P w K mg base CX0 2 "is_entries" (spP K 4 (l4 m_is_entries)) :=
  df_of g.at_is_entries s_is_entries (m := l4 m_is_entries) (o := l4 o_is_entries) (fun ds hl => match ds, hl with | [v_value, v_count, v_least, v_most], _ => rfl)
    fun X c e1 e2 e3 e4 e5 e6 => by subst e1 e2 e3 e4 e5; exact fun ds hl => match ds, hl with | [v_value, v_count, v_least, v_most], _ => r_is_entries c noW0 g (by decide) v_value v_count v_least v_most
theorem s_is_extended : FnScope ["book", "value"] ["book", "value"] (defScope (top 22)) := ⟨rfl, rfl, rfl, by decide +kernel, rfl, by decide +kernel, by decide +kernel⟩
theorem r_is_extended {X : Cx} {k : Nat} (c : Cd CX0 k wd0 ["book", "value"] (defScope (top 22)) X) (W : NoW wd0) (g : G X.prog X.w X.K X.mg X.base) (hk : 2 ≤ k) (v_book v_value : D) :
    Run X wd0 (fun _ : Unit => [.no, .no]) (fun e : Empty => e.elim) (fun _ : Unit => []) [.d v_book, .d v_value] (defBody (top 22)) (o_is_extended v_book v_value) :=
  (run_ret (t := ()) (ev_call4 c.toCw W (d_is_entries g) (Nat.le_trans (by decide) hk) (by decide +kernel) (ev_var c.toCw (i := 1) (by decide +kernel) (by rfl) (by rfl)) (ev_len c.toCw g.bt (by decide +kernel) (Ev.look (ev_ix (Ev.look (ev_var c.toCw (i := 0) (by decide +kernel) (by rfl) (by rfl))) (Ev.look ev_int)))) (ev_neg (Ev.look ev_int)) ev_non) ht0)
theorem d_is_extended {P : Program} {w : World} {K : PySem.W.Frag} {mg : Str → Option Value} {base : Heap} (g : G P w K mg base) : Df P w K mg base CX0 3 "is_extended" (spP K 2 (l2 m_is_extended)) :=
  df_of g.at_is_extended s_is_extended (m := l2 m_is_extended) (o := l2 o_is_extended) (fun ds hl => match ds, hl with | [v_book, v_value], _ => rfl)
    fun X c e1 e2 e3 e4 e5 e6 => by subst e1 e2 e3 e4 e5; exact fun ds hl => match ds, hl with | [v_book, v_value], _ => r_is_extended c noW0 g (by decide) v_book v_value
theorem s_is_closed : FnScope ["book", "stock", "rows", "row", "m", "label", "other"] ["book", "stock", "rows"] (defScope (top 32)) := ⟨rfl, rfl, rfl, by decide +kernel, rfl, by decide +kernel, by decide +kernel⟩
theorem r_is_closed {X : Cx} {k : Nat} (c : Cd CX0 k wd0 ["book", "stock", "rows", "row", "m", "label", "other"] (defScope (top 32)) X) (W : NoW wd0) (g : G X.prog X.w X.K X.mg X.base) (hk : 12 ≤ k) (hcd : CodeX X.K "is_closed" X) (v_book v_stock v_rows : D) :
    Run X wd0 (fun _ : Unit => [.no, .no, .no, .no, .no, .no, .no]) (fun e : Empty => e.elim) (fun _ : Unit => []) [.d v_book, .d v_stock, .d v_rows, .no, .no, .no, .no] (defBody (top 32)) (o_is_closed v_book v_stock v_rows) :=
  Exists.elim g.tab_is_closed fun c0 h1 => Exists.elim h1 fun P0 ht => have gt : GTab X c0 P0 := ⟨⟨"is_closed", (by decide), c0, ht⟩, g.tbl "is_closed" (by decide) c0 P0 ht, hcd c0 P0 ht⟩; (run_ifx (eE := fun e => e.elim) (evt_w (evw_or (evt_not (evt_val (Ev.look (ev_isi (T := "tuple") c.toCw (by decide +kernel) g.bt.isinstance bv_isi (by decide +kernel) g.bt.tuple bv_tuple (Ev.look (ev_var c.toCw (i := 2) (by decide +kernel) (by rfl) (by rfl))))))) (evw_or1 (evt_not (evt_val (Ev.look (ev_gen1 (i := 3) (st := false) (Cw.sub2 c.toCw (Nat.le_trans (by decide) hk)) gt (by decide +kernel) (by decide +kernel) (by rfl) (by rfl) (by rfl) (evj_seq (Ev.look (ev_var c.toCw (i := 2) (by decide +kernel) (by rfl) (by rfl)))) (fun v_row s0 H0 C code it fp pn => have c1 := Cw.gen (Cw.sub2 c.toCw (Nat.le_trans (by decide) hk)) cx0F (Cw.sub2 c.toCw (Nat.le_trans (by decide) hk)).room _ _ _ _ _ s0 H0 C code it fp pn; have W2 := NoW.calm W; have hk := Nat.sub_le_sub_right hk 2; (ev_call2 c1 W2 (d_is_extended g) (Nat.le_trans (by decide) hk) (by decide +kernel) (ev_var c1 (i := 0) (by decide +kernel) (by rfl) (by rfl)) (ev_var c1 (i := 3) (by decide +kernel) (by rfl) (by rfl)))) (.inr ⟨rfl, rfl⟩) (by decide +kernel) g.bt.all))))))) (run_ret (t := ()) ev_bl ht0) (run_ifx (eE := fun e => e.elim) (evt_not (evt_val (Ev.look (ev_gen1 (i := 3) (st := true) (Cw.sub2 c.toCw (Nat.le_trans (by decide) hk)) gt (by decide +kernel) (by decide +kernel) (by rfl) (by rfl) (by rfl) (evj_seq (Ev.look (ev_var c.toCw (i := 2) (by decide +kernel) (by rfl) (by rfl)))) (fun v_row s0 H0 C code it fp pn => have c3 := Cw.gen (Cw.sub2 c.toCw (Nat.le_trans (by decide) hk)) cx0F (Cw.sub2 c.toCw (Nat.le_trans (by decide) hk)).room _ _ _ _ _ s0 H0 C code it fp pn; have W4 := NoW.calm W; have hk := Nat.sub_le_sub_right hk 2; (ev_call2 c3 W4 (d_covers g) (Nat.le_trans (by decide) hk) (by decide +kernel) (ev_var c3 (i := 3) (by decide +kernel) (by rfl) (by rfl)) (ev_var c3 (i := 1) (by decide +kernel) (by rfl) (by rfl)))) (.inl ⟨rfl, rfl⟩) (by decide +kernel) g.bt.any)))) (run_ret (t := ()) ev_bl ht0) (run_for (S1 := Unit) (eS1 := fun (s5 : Unit) => [.d v_book, .d v_stock, .d v_rows, .no, .no, .no, .no]) (s0 := ()) c (i := 3) (by decide +kernel) (by rfl) (evi_seq (ev_var c.toCw (i := 2) (by decide +kernel) (by rfl) (by rfl))) (le_eq (le_eq (le_eq (le_no (le_no (le_no (le_no le_nil))))))) (fun s5 v_row => (run_for (S1 := Unit) (eS1 := fun (s6 : Unit) => [.d v_book, .d v_stock, .d v_rows, .d v_row, .no, .no, .no]) (s0 := ()) c (i := 4) (by decide +kernel) (by rfl) (evi_r1 c.toCw g.bt (by decide +kernel) (Ev.look (ev_len c.toCw g.bt (by decide +kernel) (Ev.look (ev_ix (Ev.look (ev_var c.toCw (i := 0) (by decide +kernel) (by rfl) (by rfl))) (Ev.look ev_int)))))) (le_eq (le_eq (le_eq (le_eq (le_no (le_no (le_no le_nil))))))) (fun s6 v_m => (run_set c (i := 5) (by decide +kernel) (by rfl) (ev_call3 c.toCw W (d_behind g) (Nat.le_trans (by decide) hk) (by decide +kernel) (ev_var c.toCw (i := 0) (by decide +kernel) (by rfl) (by rfl)) (ev_var c.toCw (i := 3) (by decide +kernel) (by rfl) (by rfl)) (ev_tup1 (ev_tup2 ev_str (ev_var c.toCw (i := 4) (by decide +kernel) (by rfl) (by rfl))))) (fun v_label => (run_if1 (evt_w (evw_and (evt_isNot (Ev.look (ev_var c.toCw (i := 5) (by decide +kernel) (by rfl) (by rfl))) (Ev.look ev_non)) (evw_and1 (evt_not (evt_val (Ev.look (ev_gen1 (i := 6) (st := true) (Cw.sub2 c.toCw (Nat.le_trans (by decide) hk)) gt (by decide +kernel) (by decide +kernel) (by rfl) (by rfl) (by rfl) (evj_seq (Ev.look (ev_var c.toCw (i := 2) (by decide +kernel) (by rfl) (by rfl)))) (fun v_other s0 H0 C code it fp pn => have c7 := Cw.gen (Cw.sub2 c.toCw (Nat.le_trans (by decide) hk)) cx0F (Cw.sub2 c.toCw (Nat.le_trans (by decide) hk)).room _ _ _ _ _ s0 H0 C code it fp pn; have W8 := NoW.calm W; have hk := Nat.sub_le_sub_right hk 2; (ev_call2 c7 W8 (d_covers g) (Nat.le_trans (by decide) hk) (by decide +kernel) (ev_var c7 (i := 6) (by decide +kernel) (by rfl) (by rfl)) (ev_var c7 (i := 5) (by decide +kernel) (by rfl) (by rfl)))) (.inl ⟨rfl, rfl⟩) (by decide +kernel) g.bt.any))))))) (run_ret (t := ()) ev_bl ht0) (run_nil (le_eq (le_eq (le_eq (le_eq (le_no (le_no (le_no le_nil)))))))))))) (fun s6 => (run_nil (le_eq (le_eq (le_eq (le_no (le_no (le_no (le_no le_nil))))))))))) (fun s5 => (run_ret (t := ()) ev_bl ht0)))))
theorem d_is_closed {P : Program} {w : World} {K : PySem.W.Frag} {mg : Str → Option Value} {base : Heap} (g : G P w K mg base) : Df P w K mg base CX0 13 "is_closed" (spP K 3 (l3 m_is_closed)) :=
  df_of g.at_is_closed s_is_closed (m := l3 m_is_closed) (o := l3 o_is_closed) (fun ds hl => match ds, hl with | [v_book, v_stock, v_rows], _ => rfl)
    fun X c e1 e2 e3 e4 e5 e6 => by subst e1 e2 e3 e4 e5; exact fun ds hl => match ds, hl with | [v_book, v_stock, v_rows], _ => r_is_closed c noW0 g (by decide) e6 v_book v_stock v_rows
theorem s_law_same : FnScope ["_law_a", "_law_b", "_law_k"] ["_law_a", "_law_b"] (defScope (top 36)) := ⟨rfl, rfl, rfl, by decide +kernel, rfl, by decide +kernel, by decide +kernel⟩
theorem r_law_same {X : Cx} {k : Nat} (c : Cd CX0 k wd0 ["_law_a", "_law_b", "_law_k"] (defScope (top 36)) X) (W : NoW wd0) (g : G X.prog X.w X.K X.mg X.base) (hk : 0 ≤ k) {j : Nat} {rec : D → D → R D} (hrec : Df X.prog X.w X.K X.mg X.base CX0 j "_law_same" (spP X.K 2 (l2 rec))) (hj : j + 0 ≤ k) (hb : 1 ≤ j) (v_law_a v_law_b : D) :
    Run X wd0 (fun _ : Unit => [.no, .no, .no]) (fun e : Empty => e.elim) (fun _ : Unit => []) [.d v_law_a, .d v_law_b, .no] (defBody (top 36)) (o_law_same rec v_law_a v_law_b) :=
  (run_ifx (eE := fun e => e.elim) (evt_w (evw_and (evt_val (Ev.look (ev_isi (T := "tuple") c.toCw (by decide +kernel) g.bt.isinstance bv_isi (by decide +kernel) g.bt.tuple bv_tuple (Ev.look (ev_var c.toCw (i := 0) (by decide +kernel) (by rfl) (by rfl)))))) (evw_and1 (evt_val (Ev.look (ev_isi (T := "tuple") c.toCw (by decide +kernel) g.bt.isinstance bv_isi (by decide +kernel) g.bt.tuple bv_tuple (Ev.look (ev_var c.toCw (i := 1) (by decide +kernel) (by rfl) (by rfl))))))))) (run_ifx (eE := fun e => e.elim) (evt_ne c.toCw (Ev.look (ev_len c.toCw g.bt (by decide +kernel) (Ev.look (ev_var c.toCw (i := 0) (by decide +kernel) (by rfl) (by rfl))))) (Ev.look (ev_len c.toCw g.bt (by decide +kernel) (Ev.look (ev_var c.toCw (i := 1) (by decide +kernel) (by rfl) (by rfl)))))) (run_ret (t := ()) ev_bl ht0) (run_for (S1 := Unit) (eS1 := fun (s1 : Unit) => [.d v_law_a, .d v_law_b, .no]) (s0 := ()) c (i := 2) (by decide +kernel) (by rfl) (evi_r1 c.toCw g.bt (by decide +kernel) (Ev.look (ev_len c.toCw g.bt (by decide +kernel) (Ev.look (ev_var c.toCw (i := 0) (by decide +kernel) (by rfl) (by rfl)))))) (le_eq (le_eq (le_no le_nil))) (fun s1 v_law_k => (run_if1 (evt_not (evt_val (Ev.look (ev_call2 c.toCw W hrec (by omega) (by decide +kernel) (ev_ix (Ev.look (ev_var c.toCw (i := 0) (by decide +kernel) (by rfl) (by rfl))) (Ev.look (ev_var c.toCw (i := 2) (by decide +kernel) (by rfl) (by rfl)))) (ev_ix (Ev.look (ev_var c.toCw (i := 1) (by decide +kernel) (by rfl) (by rfl))) (Ev.look (ev_var c.toCw (i := 2) (by decide +kernel) (by rfl) (by rfl)))))))) (run_ret (t := ()) ev_bl ht0) (run_nil (le_eq (le_eq (le_no le_nil)))))) (fun s1 => (run_ret (t := ()) ev_bl ht0)))) (run_ifx (eE := fun e => e.elim) (evt_w (evw_or (evt_val (Ev.look (ev_isi (T := "bool") c.toCw (by decide +kernel) g.bt.isinstance bv_isi (by decide +kernel) g.bt.bool bv_bool (Ev.look (ev_var c.toCw (i := 0) (by decide +kernel) (by rfl) (by rfl)))))) (evw_or1 (evt_val (Ev.look (ev_isi (T := "bool") c.toCw (by decide +kernel) g.bt.isinstance bv_isi (by decide +kernel) g.bt.bool bv_bool (Ev.look (ev_var c.toCw (i := 1) (by decide +kernel) (by rfl) (by rfl))))))))) (run_ret (t := ()) (ev_and (ev_isi (T := "bool") c.toCw (by decide +kernel) g.bt.isinstance bv_isi (by decide +kernel) g.bt.bool bv_bool (Ev.look (ev_var c.toCw (i := 0) (by decide +kernel) (by rfl) (by rfl)))) (ev_and (ev_isi (T := "bool") c.toCw (by decide +kernel) g.bt.isinstance bv_isi (by decide +kernel) g.bt.bool bv_bool (Ev.look (ev_var c.toCw (i := 1) (by decide +kernel) (by rfl) (by rfl)))) (ev_one (ev_eq c.toCw (Ev.look (ev_var c.toCw (i := 0) (by decide +kernel) (by rfl) (by rfl))) (Ev.look (ev_var c.toCw (i := 1) (by decide +kernel) (by rfl) (by rfl))))))) ht0) (run_ifx (eE := fun e => e.elim) (evt_w (evw_and (evt_val (Ev.look (ev_isi (T := "int") c.toCw (by decide +kernel) g.bt.isinstance bv_isi (by decide +kernel) g.bt.int bv_int (Ev.look (ev_var c.toCw (i := 0) (by decide +kernel) (by rfl) (by rfl)))))) (evw_and1 (evt_val (Ev.look (ev_isi (T := "int") c.toCw (by decide +kernel) g.bt.isinstance bv_isi (by decide +kernel) g.bt.int bv_int (Ev.look (ev_var c.toCw (i := 1) (by decide +kernel) (by rfl) (by rfl))))))))) (run_ret (t := ()) (ev_eq c.toCw (Ev.look (ev_var c.toCw (i := 0) (by decide +kernel) (by rfl) (by rfl))) (Ev.look (ev_var c.toCw (i := 1) (by decide +kernel) (by rfl) (by rfl)))) ht0) (run_ifx (eE := fun e => e.elim) (evt_w (evw_and (evt_val (Ev.look (ev_isi (T := "str") c.toCw (by decide +kernel) g.bt.isinstance bv_isi (by decide +kernel) g.bt.str bv_str (Ev.look (ev_var c.toCw (i := 0) (by decide +kernel) (by rfl) (by rfl)))))) (evw_and1 (evt_val (Ev.look (ev_isi (T := "str") c.toCw (by decide +kernel) g.bt.isinstance bv_isi (by decide +kernel) g.bt.str bv_str (Ev.look (ev_var c.toCw (i := 1) (by decide +kernel) (by rfl) (by rfl))))))))) (run_ret (t := ()) (ev_eq c.toCw (Ev.look (ev_var c.toCw (i := 0) (by decide +kernel) (by rfl) (by rfl))) (Ev.look (ev_var c.toCw (i := 1) (by decide +kernel) (by rfl) (by rfl)))) ht0) (run_ret (t := ()) (ev_and (ev_is (Ev.look (ev_var c.toCw (i := 0) (by decide +kernel) (by rfl) (by rfl))) (Ev.look ev_non)) (ev_one (ev_is (Ev.look (ev_var c.toCw (i := 1) (by decide +kernel) (by rfl) (by rfl))) (Ev.look ev_non)))) ht0)))))
theorem d_law_same {P : Program} {w : World} {K : PySem.W.Frag} {mg : Str → Option Value} {base : Heap} (g : G P w K mg base) : ∀ n : Nat, Df P w K mg base CX0 (1 + 1 * n) "_law_same" (spP K 2 (l2 (m_law_same n)))
  | 0 => df_bad g.at_law_same fun ds => (by unfold l2; split <;> rfl)
  | n + 1 => df_of (k := 1 + 1 * n + 0) g.at_law_same s_law_same (m := l2 (m_law_same (n + 1))) (o := l2 (o_law_same (m_law_same n))) (fun ds hl => match ds, hl with | [v_law_a, v_law_b], _ => rfl)
      fun X c e1 e2 e3 e4 e5 e6 => by subst e1 e2 e3 e4 e5; exact fun ds hl => match ds, hl with | [v_law_a, v_law_b], _ => r_law_same (k := 1 + 1 * n + 0) c noW0 g (by omega) (d_law_same g n) (by omega) (by omega) v_law_a v_law_b
theorem s_are_apart : FnScope ["rows", "k", "n"] ["rows"] (defScope (top 33)) := ⟨rfl, rfl, rfl, by decide +kernel, rfl, by decide +kernel, by decide +kernel⟩
theorem r_are_apart {X : Cx} {k : Nat} (c : Cd CX0 k wd0 ["rows", "k", "n"] (defScope (top 33)) X) (W : NoW wd0) (g : G X.prog X.w X.K X.mg X.base) (hk : 1 ≤ k) (v_rows : D) :
    Run X wd0 (fun _ : Unit => [.no, .no, .no]) (fun e : Empty => e.elim) (fun _ : Unit => []) [.d v_rows, .no, .no] (defBody (top 33)) (o_are_apart v_rows) :=
  (run_for (S1 := Unit) (eS1 := fun (s1 : Unit) => [.d v_rows, .no, .no]) (s0 := ()) c (i := 1) (by decide +kernel) (by rfl) (evi_r1 c.toCw g.bt (by decide +kernel) (Ev.look (ev_len c.toCw g.bt (by decide +kernel) (Ev.look (ev_var c.toCw (i := 0) (by decide +kernel) (by rfl) (by rfl)))))) (le_eq (le_no (le_no le_nil))) (fun s1 v_k => (run_for (S1 := Unit) (eS1 := fun (s2 : Unit) => [.d v_rows, .d v_k, .no]) (s0 := ()) c (i := 2) (by decide +kernel) (by rfl) (evi_r1 c.toCw g.bt (by decide +kernel) (Ev.look (ev_len c.toCw g.bt (by decide +kernel) (Ev.look (ev_var c.toCw (i := 0) (by decide +kernel) (by rfl) (by rfl)))))) (le_eq (le_eq (le_no le_nil))) (fun s2 v_n => (run_if1 (evt_w (evw_and (evt_ne c.toCw (Ev.look (ev_var c.toCw (i := 1) (by decide +kernel) (by rfl) (by rfl))) (Ev.look (ev_var c.toCw (i := 2) (by decide +kernel) (by rfl) (by rfl)))) (evw_and1 (evt_val (Ev.look (ev_call2 c.toCw W (d_covers g) (Nat.le_trans (by decide) hk) (by decide +kernel) (ev_ix (Ev.look (ev_var c.toCw (i := 0) (by decide +kernel) (by rfl) (by rfl))) (Ev.look (ev_var c.toCw (i := 1) (by decide +kernel) (by rfl) (by rfl)))) (ev_ix (Ev.look (ev_var c.toCw (i := 0) (by decide +kernel) (by rfl) (by rfl))) (Ev.look (ev_var c.toCw (i := 2) (by decide +kernel) (by rfl) (by rfl)))))))))) (run_ret (t := ()) ev_bl ht0) (run_nil (le_eq (le_eq (le_no le_nil)))))) (fun s2 => (run_nil (le_eq (le_no (le_no le_nil))))))) (fun s1 => (run_ret (t := ()) ev_bl ht0)))
theorem d_are_apart {P : Program} {w : World} {K : PySem.W.Frag} {mg : Str → Option Value} {base : Heap} (g : G P w K mg base) : Df P w K mg base CX0 2 "are_apart" (spP K 1 (l1 m_are_apart)) :=
  df_of g.at_are_apart s_are_apart (m := l1 m_are_apart) (o := l1 o_are_apart) (fun ds hl => match ds, hl with | [v_rows], _ => rfl)
    fun X c e1 e2 e3 e4 e5 e6 => by subst e1 e2 e3 e4 e5; exact fun ds hl => match ds, hl with | [v_rows], _ => r_are_apart c noW0 g (by decide) v_rows
theorem s_order_key : FnScope ["label", "entry"] ["label"] (defScope (top 11)) := ⟨rfl, rfl, rfl, by decide +kernel, rfl, by decide +kernel, by decide +kernel⟩
theorem r_order_key {X : Cx} {k : Nat} (c : Cd CX0 k wd0 ["label", "entry"] (defScope (top 11)) X) (W : NoW wd0) (g : G X.prog X.w X.K X.mg X.base) (hk : 0 ≤ k) (v_label : D) :
    Run X wd0 (fun _ : Unit => [.no, .no]) (fun e : Empty => e.elim) (fun _ : Unit => []) [.d v_label, .no] (defBody (top 11)) (o_order_key v_label) :=
  (run_ret (t := ()) (ev_tuple c.toCw g.bt (by decide +kernel) (Ev.look (EvL.ev (evl_comp c.toCw (i := 1) (by decide +kernel) (by rfl) (by decide +kernel) (by rfl) (by rfl) (evj_seq (Ev.look (ev_var c.toCw (i := 0) (by decide +kernel) (by rfl) (by rfl)))) (fun v_entry s0 H0 C cl fp => have c1 := Cw.blk c.toCw cx0F s0 H0 _ C cl fp; have W2 := NoW.calm W; (ev_ifExp (evt_eq c1 (Ev.look (ev_var c1 (i := 1) (by decide +kernel) (by rfl) (by rfl))) (Ev.look (ev_con c1 (by decide +kernel) g.con_END))) (ev_tup2 ev_int ev_int) (ev_tup2 ev_int (ev_neg (Ev.look (ev_var c1 (i := 1) (by decide +kernel) (by rfl) (by rfl))))))))))) ht0)
theorem d_order_key {P : Program} {w : World} {K : PySem.W.Frag} {mg : Str → Option Value} {base : Heap} (g : G P w K mg base) : Df P w K mg base CX0 1 "order_key" (spP K 1 (l1 m_order_key)) :=
  df_of g.at_order_key s_order_key (m := l1 m_order_key) (o := l1 o_order_key) (fun ds hl => match ds, hl with | [v_label], _ => rfl)
    fun X c e1 e2 e3 e4 e5 e6 => by subst e1 e2 e3 e4 e5; exact fun ds hl => match ds, hl with | [v_label], _ => r_order_key c noW0 g (by decide) v_label
theorem s_in_order : FnScope ["rows"] ["rows"] (defScope (top 12)) := ⟨rfl, rfl, rfl, by decide +kernel, rfl, by decide +kernel, by decide +kernel⟩
theorem r_in_order {X : Cx} {k : Nat} (c : Cd CX0 k wd0 ["rows"] (defScope (top 12)) X) (W : NoW wd0) (g : G X.prog X.w X.K X.mg X.base) (hk : 3 ≤ k) (v_rows : D) :
    Run X wd0 (fun _ : Unit => [.no]) (fun e : Empty => e.elim) (fun _ : Unit => []) [.d v_rows] (defBody (top 12)) (o_in_order v_rows) :=
  (run_ret (t := ()) (EvL.ev (evl_sortK c.toCw g.bt (by decide +kernel) (d_order_key g) (Nat.le_trans (by decide) hk) (by decide +kernel) (Ev.look (ev_var c.toCw (i := 0) (by decide +kernel) (by rfl) (by rfl))))) ht0)
theorem d_in_order {P : Program} {w : World} {K : PySem.W.Frag} {mg : Str → Option Value} {base : Heap} (g : G P w K mg base) : Df P w K mg base CX0 4 "in_order" (spP K 1 (l1 m_in_order)) :=
  df_of g.at_in_order s_in_order (m := l1 m_in_order) (o := l1 o_in_order) (fun ds hl => match ds, hl with | [v_rows], _ => rfl)
    fun X c e1 e2 e3 e4 e5 e6 => by subst e1 e2 e3 e4 e5; exact fun ds hl => match ds, hl with | [v_rows], _ => r_in_order c noW0 g (by decide) v_rows
theorem s_is_step : FnScope ["book", "value", "nested"] ["book", "value", "nested"] (defScope (top 23)) := ⟨rfl, rfl, rfl, by decide +kernel, rfl, by decide +kernel, by decide +kernel⟩
theorem r_is_step {X : Cx} {k : Nat} (c : Cd CX0 k wd0 ["book", "value", "nested"] (defScope (top 23)) X) (W : NoW wd0) (g : G X.prog X.w X.K X.mg X.base) (hk : 1 ≤ k) {j : Nat} {rec : D → D → D → R D} (hrec : Df X.prog X.w X.K X.mg X.base CX0 j "are_steps" (spP X.K 3 (l3 rec))) (hj : j + 0 ≤ k) (hb : 2 ≤ j) (v_book v_value v_nested : D) :
    Run X wd0 (fun _ : Unit => [.no, .no, .no]) (fun e : Empty => e.elim) (fun _ : Unit => []) [.d v_book, .d v_value, .d v_nested] (defBody (top 23)) (o_is_step rec v_book v_value v_nested) :=
  (run_ifx (eE := fun e => e.elim) (evt_w (evw_or (evt_not (evt_val (Ev.look (ev_isi (T := "tuple") c.toCw (by decide +kernel) g.bt.isinstance bv_isi (by decide +kernel) g.bt.tuple bv_tuple (Ev.look (ev_var c.toCw (i := 1) (by decide +kernel) (by rfl) (by rfl))))))) (evw_or (evt_eq c.toCw (Ev.look (ev_len c.toCw g.bt (by decide +kernel) (Ev.look (ev_var c.toCw (i := 1) (by decide +kernel) (by rfl) (by rfl))))) (Ev.look ev_int)) (evw_or1 (evt_not (evt_val (Ev.look (ev_isi (T := "str") c.toCw (by decide +kernel) g.bt.isinstance bv_isi (by decide +kernel) g.bt.str bv_str (Ev.look (ev_ix (Ev.look (ev_var c.toCw (i := 1) (by decide +kernel) (by rfl) (by rfl))) (Ev.look ev_int))))))))))) (run_ret (t := ()) ev_bl ht0) (run_ifx (eE := fun e => e.elim) (evt_w (evw_and (evt_eq c.toCw (Ev.look (ev_ix (Ev.look (ev_var c.toCw (i := 1) (by decide +kernel) (by rfl) (by rfl))) (Ev.look ev_int))) (Ev.look ev_str)) (evw_and1 (evt_eq c.toCw (Ev.look (ev_len c.toCw g.bt (by decide +kernel) (Ev.look (ev_var c.toCw (i := 1) (by decide +kernel) (by rfl) (by rfl))))) (Ev.look ev_int))))) (run_ret (t := ()) (ev_call3 c.toCw W (d_is_number g) (Nat.le_trans (by decide) hk) (by decide +kernel) (ev_ix (Ev.look (ev_var c.toCw (i := 1) (by decide +kernel) (by rfl) (by rfl))) (Ev.look ev_int)) ev_int (ev_sub (Ev.look (ev_len c.toCw g.bt (by decide +kernel) (Ev.look (ev_ix (Ev.look (ev_var c.toCw (i := 0) (by decide +kernel) (by rfl) (by rfl))) (Ev.look ev_int))))) (Ev.look ev_int))) ht0) (run_ifx (eE := fun e => e.elim) (evt_w (evw_or (evt_ne c.toCw (Ev.look (ev_ix (Ev.look (ev_var c.toCw (i := 1) (by decide +kernel) (by rfl) (by rfl))) (Ev.look ev_int))) (Ev.look ev_str)) (evw_or (evt_ne c.toCw (Ev.look (ev_len c.toCw g.bt (by decide +kernel) (Ev.look (ev_var c.toCw (i := 1) (by decide +kernel) (by rfl) (by rfl))))) (Ev.look ev_int)) (evw_or1 (evt_not (evt_val (Ev.look (ev_call3 c.toCw W (d_is_number g) (Nat.le_trans (by decide) hk) (by decide +kernel) (ev_ix (Ev.look (ev_var c.toCw (i := 1) (by decide +kernel) (by rfl) (by rfl))) (Ev.look ev_int)) ev_int ev_non)))))))) (run_ret (t := ()) ev_bl ht0) (run_ret (t := ()) (ev_and (ev_gt (Ev.look (ev_var c.toCw (i := 2) (by decide +kernel) (by rfl) (by rfl))) (Ev.look ev_int)) (ev_and (ev_ne c.toCw (Ev.look (ev_ix (Ev.look (ev_var c.toCw (i := 1) (by decide +kernel) (by rfl) (by rfl))) (Ev.look ev_int))) (Ev.look ev_tup0)) (ev_one (ev_call3 c.toCw W hrec (by omega) (by decide +kernel) (ev_var c.toCw (i := 0) (by decide +kernel) (by rfl) (by rfl)) (ev_ix (Ev.look (ev_var c.toCw (i := 1) (by decide +kernel) (by rfl) (by rfl))) (Ev.look ev_int)) (ev_sub (Ev.look (ev_var c.toCw (i := 2) (by decide +kernel) (by rfl) (by rfl))) (Ev.look ev_int)))))) ht0))))
theorem d_is_step {P : Program} {w : World} {K : PySem.W.Frag} {mg : Str → Option Value} {base : Heap} (g : G P w K mg base) {j : Nat} {rec : D → D → D → R D} (hrec : Df P w K mg base CX0 j "are_steps" (spP K 3 (l3 rec))) (hb : 2 ≤ j) : Df P w K mg base CX0 (j + 1) "is_step" (spP K 3 (l3 (m_is_step rec))) :=
  df_of (k := j + 0) g.at_is_step s_is_step (m := l3 (m_is_step rec)) (o := l3 (o_is_step rec)) (fun ds hl => match ds, hl with | [v_book, v_value, v_nested], _ => rfl)
    fun X c e1 e2 e3 e4 e5 e6 => by subst e1 e2 e3 e4 e5; exact fun ds hl => match ds, hl with | [v_book, v_value, v_nested], _ => r_is_step (k := j + 0) c noW0 g (by omega) hrec (by omega) hb v_book v_value v_nested
theorem s_are_steps : FnScope ["book", "value", "nested", "step"] ["book", "value", "nested"] (defScope (top 24)) := ⟨rfl, rfl, rfl, by decide +kernel, rfl, by decide +kernel, by decide +kernel⟩
theorem r_are_steps {X : Cx} {k : Nat} (c : Cd CX0 k wd0 ["book", "value", "nested", "step"] (defScope (top 24)) X) (W : NoW wd0) (g : G X.prog X.w X.K X.mg X.base) (hk : 1 ≤ k) {j : Nat} {rec : D → D → D → R D} (hrec : Df X.prog X.w X.K X.mg X.base CX0 j "are_steps" (spP X.K 3 (l3 rec))) (hj : j + 1 ≤ k) (hb : 2 ≤ j) (v_book v_value v_nested : D) :
    Run X wd0 (fun _ : Unit => [.no, .no, .no, .no]) (fun e : Empty => e.elim) (fun _ : Unit => []) [.d v_book, .d v_value, .d v_nested, .no] (defBody (top 24)) (o_are_steps rec v_book v_value v_nested) :=
  (run_ifx (eE := fun e => e.elim) (evt_not (evt_val (Ev.look (ev_isi (T := "tuple") c.toCw (by decide +kernel) g.bt.isinstance bv_isi (by decide +kernel) g.bt.tuple bv_tuple (Ev.look (ev_var c.toCw (i := 1) (by decide +kernel) (by rfl) (by rfl))))))) (run_ret (t := ()) ev_bl ht0) (run_ret (t := ()) (ev_all c.toCw g.bt (by decide +kernel) (Ev.look (EvL.ev (evl_comp c.toCw (i := 3) (by decide +kernel) (by rfl) (by decide +kernel) (by rfl) (by rfl) (evj_seq (Ev.look (ev_var c.toCw (i := 1) (by decide +kernel) (by rfl) (by rfl)))) (fun v_step s0 H0 C cl fp => have c1 := Cw.blk c.toCw cx0F s0 H0 _ C cl fp; have W2 := NoW.calm W; (ev_call3 c1 W2 (d_is_step g hrec hb) (by omega) (by decide +kernel) (ev_var c1 (i := 0) (by decide +kernel) (by rfl) (by rfl)) (ev_var c1 (i := 3) (by decide +kernel) (by rfl) (by rfl)) (ev_var c1 (i := 2) (by decide +kernel) (by rfl) (by rfl)))))))) ht0))
theorem d_are_steps {P : Program} {w : World} {K : PySem.W.Frag} {mg : Str → Option Value} {base : Heap} (g : G P w K mg base) : ∀ n : Nat, Df P w K mg base CX0 (2 + 2 * n) "are_steps" (spP K 3 (l3 (m_are_steps n)))
  | 0 => df_bad g.at_are_steps fun ds => (by unfold l3; split <;> rfl)
  | n + 1 => df_of (k := 2 + 2 * n + 1) g.at_are_steps s_are_steps (m := l3 (m_are_steps (n + 1))) (o := l3 (o_are_steps (m_are_steps n))) (fun ds hl => match ds, hl with | [v_book, v_value, v_nested], _ => rfl)
      fun X c e1 e2 e3 e4 e5 e6 => by subst e1 e2 e3 e4 e5; exact fun ds hl => match ds, hl with | [v_book, v_value, v_nested], _ => r_are_steps (k := 2 + 2 * n + 1) c noW0 g (by omega) (d_are_steps g n) (by omega) (by omega) v_book v_value v_nested
theorem s_is_run : FnScope ["book", "value"] ["book", "value"] (defScope (top 25)) := ⟨rfl, rfl, rfl, by decide +kernel, rfl, by decide +kernel, by decide +kernel⟩
theorem r_is_run {X : Cx} {k : Nat} (c : Cd CX0 k wd0 ["book", "value"] (defScope (top 25)) X) (W : NoW wd0) (g : G X.prog X.w X.K X.mg X.base) (hk : 22 ≤ k) (v_book v_value : D) :
    Run X wd0 (fun _ : Unit => [.no, .no]) (fun e : Empty => e.elim) (fun _ : Unit => []) [.d v_book, .d v_value] (defBody (top 25)) (o_is_run v_book v_value) :=
  (run_ret (t := ()) (ev_call3 c.toCw W (d_are_steps g 10) (Nat.le_trans (by decide) hk) (by decide +kernel) (ev_var c.toCw (i := 0) (by decide +kernel) (by rfl) (by rfl)) (ev_var c.toCw (i := 1) (by decide +kernel) (by rfl) (by rfl)) (ev_con c.toCw (by decide +kernel) g.con_MAX_NESTED)) ht0)
theorem d_is_run {P : Program} {w : World} {K : PySem.W.Frag} {mg : Str → Option Value} {base : Heap} (g : G P w K mg base) : Df P w K mg base CX0 23 "is_run" (spP K 2 (l2 m_is_run)) :=
  df_of g.at_is_run s_is_run (m := l2 m_is_run) (o := l2 o_is_run) (fun ds hl => match ds, hl with | [v_book, v_value], _ => rfl)
    fun X c e1 e2 e3 e4 e5 e6 => by subst e1 e2 e3 e4 e5; exact fun ds hl => match ds, hl with | [v_book, v_value], _ => r_is_run c noW0 g (by decide) v_book v_value
theorem s_is_plan : FnScope ["book", "value", "part"] ["book", "value"] (defScope (top 27)) := ⟨rfl, rfl, rfl, by decide +kernel, rfl, by decide +kernel, by decide +kernel⟩
theorem r_is_plan {X : Cx} {k : Nat} (c : Cd CX0 k wd0 ["book", "value", "part"] (defScope (top 27)) X) (W : NoW wd0) (g : G X.prog X.w X.K X.mg X.base) (hk : 23 ≤ k) (v_book v_value : D) :
    Run X wd0 (fun _ : Unit => [.no, .no, .no]) (fun e : Empty => e.elim) (fun _ : Unit => []) [.d v_book, .d v_value, .no] (defBody (top 27)) (o_is_plan v_book v_value) :=
  (run_ifx (eE := fun e => e.elim) (evt_not (evt_val (Ev.look (ev_isi (T := "tuple") c.toCw (by decide +kernel) g.bt.isinstance bv_isi (by decide +kernel) g.bt.tuple bv_tuple (Ev.look (ev_var c.toCw (i := 1) (by decide +kernel) (by rfl) (by rfl))))))) (run_ret (t := ()) ev_bl ht0) (run_for (S1 := Unit) (eS1 := fun (s1 : Unit) => [.d v_book, .d v_value, .no]) (s0 := ()) c (i := 2) (by decide +kernel) (by rfl) (evi_seq (ev_var c.toCw (i := 1) (by decide +kernel) (by rfl) (by rfl))) (le_eq (le_eq (le_no le_nil))) (fun s1 v_part => (run_ifx (eE := fun e => e.elim) (evt_w (evw_or (evt_not (evt_val (Ev.look (ev_isi (T := "tuple") c.toCw (by decide +kernel) g.bt.isinstance bv_isi (by decide +kernel) g.bt.tuple bv_tuple (Ev.look (ev_var c.toCw (i := 2) (by decide +kernel) (by rfl) (by rfl))))))) (evw_or (evt_ne c.toCw (Ev.look (ev_len c.toCw g.bt (by decide +kernel) (Ev.look (ev_var c.toCw (i := 2) (by decide +kernel) (by rfl) (by rfl))))) (Ev.look ev_int)) (evw_or1 (evt_notin c.toCw (Ev.look (ev_ix (Ev.look (ev_var c.toCw (i := 2) (by decide +kernel) (by rfl) (by rfl))) (Ev.look ev_int))) (Ev.look (ev_tup2 ev_str ev_str))))))) (run_ret (t := ()) ev_bl ht0) (run_if1 (evt_w (evw_or (evt_not (evt_val (Ev.look (ev_call2 c.toCw W (d_is_run g) (Nat.le_trans (by decide) hk) (by decide +kernel) (ev_var c.toCw (i := 0) (by decide +kernel) (by rfl) (by rfl)) (ev_ix (Ev.look (ev_var c.toCw (i := 2) (by decide +kernel) (by rfl) (by rfl))) (Ev.look ev_int)))))) (evw_or1 (evt_eq c.toCw (Ev.look (ev_len c.toCw g.bt (by decide +kernel) (Ev.look (ev_ix (Ev.look (ev_var c.toCw (i := 2) (by decide +kernel) (by rfl) (by rfl))) (Ev.look ev_int))))) (Ev.look ev_int))))) (run_ret (t := ()) ev_bl ht0) (run_nil (le_eq (le_eq (le_no le_nil))))))) (fun s1 => (run_ret (t := ()) ev_bl ht0))))
theorem d_is_plan {P : Program} {w : World} {K : PySem.W.Frag} {mg : Str → Option Value} {base : Heap} (g : G P w K mg base) : Df P w K mg base CX0 24 "is_plan" (spP K 2 (l2 m_is_plan)) :=
  df_of g.at_is_plan s_is_plan (m := l2 m_is_plan) (o := l2 o_is_plan) (fun ds hl => match ds, hl with | [v_book, v_value], _ => rfl)
    fun X c e1 e2 e3 e4 e5 e6 => by subst e1 e2 e3 e4 e5; exact fun ds hl => match ds, hl with | [v_book, v_value], _ => r_is_plan c noW0 g (by decide) v_book v_value
theorem s_pumped : FnScope ["book", "label", "run", "amounts", "k"] ["book", "label", "run"] (defScope (top 28)) := ⟨rfl, rfl, rfl, by decide +kernel, rfl, by decide +kernel, by decide +kernel⟩
theorem r_pumped {X : Cx} {k : Nat} (c : Cd CX0 k wd0 ["book", "label", "run", "amounts", "k"] (defScope (top 28)) X) (W : NoW wd0) (g : G X.prog X.w X.K X.mg X.base) (hk : 11 ≤ k) (hcd : CodeX X.K "pumped" X) (v_book v_label v_run : D) :
    Run X wd0 (fun _ : Unit => [.no, .no, .no, .no, .no]) (fun e : Empty => e.elim) (fun _ : Unit => []) [.d v_book, .d v_label, .d v_run, .no, .no] (defBody (top 28)) (o_pumped v_book v_label v_run) :=
  Exists.elim g.tab_pumped fun c0 h1 => Exists.elim h1 fun P0 ht => have gt : GTab X c0 P0 := ⟨⟨"pumped", (by decide), c0, ht⟩, g.tbl "pumped" (by decide) c0 P0 ht, hcd c0 P0 ht⟩; (run_set c (i := 3) (by decide +kernel) (by rfl) (ev_call2 c.toCw W (d_change g) (Nat.le_trans (by decide) hk) (by decide +kernel) (ev_var c.toCw (i := 0) (by decide +kernel) (by rfl) (by rfl)) (ev_var c.toCw (i := 2) (by decide +kernel) (by rfl) (by rfl))) (fun v_amounts => (run_ifx (eE := fun e => e.elim) (evt_not (evt_val (Ev.look (ev_call2 c.toCw W (d_covers g) (Nat.le_trans (by decide) hk) (by decide +kernel) (ev_var c.toCw (i := 1) (by decide +kernel) (by rfl) (by rfl)) (ev_call2 c.toCw W (d_need g) (Nat.le_trans (by decide) hk) (by decide +kernel) (ev_var c.toCw (i := 0) (by decide +kernel) (by rfl) (by rfl)) (ev_var c.toCw (i := 2) (by decide +kernel) (by rfl) (by rfl))))))) (run_ret (t := ()) ev_non ht0) (run_ifx (eE := fun e => e.elim) (evt_val (Ev.look (ev_gen1 (i := 4) (st := true) (Cw.sub2 c.toCw (Nat.le_trans (by decide) hk)) gt (by decide +kernel) (by decide +kernel) (by rfl) (by rfl) (by rfl) (EvI.j (evi_r1 c.toCw g.bt (by decide +kernel) (Ev.look (ev_len c.toCw g.bt (by decide +kernel) (Ev.look (ev_var c.toCw (i := 1) (by decide +kernel) (by rfl) (by rfl))))))) (fun v_k s0 H0 C code it fp pn => have c1 := Cw.gen (Cw.sub2 c.toCw (Nat.le_trans (by decide) hk)) cx0F (Cw.sub2 c.toCw (Nat.le_trans (by decide) hk)).room _ _ _ _ _ s0 H0 C code it fp pn; have W2 := NoW.calm W; have hk := Nat.sub_le_sub_right hk 2; (ev_and (ev_ne c1 (Ev.look (ev_ix (Ev.look (ev_var c1 (i := 1) (by decide +kernel) (by rfl) (by rfl))) (Ev.look (ev_var c1 (i := 4) (by decide +kernel) (by rfl) (by rfl))))) (Ev.look (ev_con c1 (by decide +kernel) g.con_END))) (ev_one (ev_lt (Ev.look (ev_ix (Ev.look (ev_var c1 (i := 3) (by decide +kernel) (by rfl) (by rfl))) (Ev.look (ev_var c1 (i := 4) (by decide +kernel) (by rfl) (by rfl))))) (Ev.look ev_int))))) (.inl ⟨rfl, rfl⟩) (by decide +kernel) g.bt.any))) (run_ret (t := ()) ev_non ht0) (run_ret (t := ()) (ev_tuple c.toCw g.bt (by decide +kernel) (Ev.look (EvL.ev (evl_comp c.toCw (i := 4) (by decide +kernel) (by rfl) (by decide +kernel) (by rfl) (by rfl) (EvI.j (evi_r1 c.toCw g.bt (by decide +kernel) (Ev.look (ev_len c.toCw g.bt (by decide +kernel) (Ev.look (ev_var c.toCw (i := 1) (by decide +kernel) (by rfl) (by rfl))))))) (fun v_k s0 H0 C cl fp => have c3 := Cw.blk c.toCw cx0F s0 H0 _ C cl fp; have W4 := NoW.calm W; (ev_ifExp (evt_gt (Ev.look (ev_ix (Ev.look (ev_var c3 (i := 3) (by decide +kernel) (by rfl) (by rfl))) (Ev.look (ev_var c3 (i := 4) (by decide +kernel) (by rfl) (by rfl))))) (Ev.look ev_int)) (ev_con c3 (by decide +kernel) g.con_END) (ev_ix (Ev.look (ev_var c3 (i := 1) (by decide +kernel) (by rfl) (by rfl))) (Ev.look (ev_var c3 (i := 4) (by decide +kernel) (by rfl) (by rfl)))))))))) ht0)))))
theorem d_pumped {P : Program} {w : World} {K : PySem.W.Frag} {mg : Str → Option Value} {base : Heap} (g : G P w K mg base) : Df P w K mg base CX0 12 "pumped" (spP K 3 (l3 m_pumped)) :=
  df_of g.at_pumped s_pumped (m := l3 m_pumped) (o := l3 o_pumped) (fun ds hl => match ds, hl with | [v_book, v_label, v_run], _ => rfl)
    fun X c e1 e2 e3 e4 e5 e6 => by subst e1 e2 e3 e4 e5; exact fun ds hl => match ds, hl with | [v_book, v_label, v_run], _ => r_pumped c noW0 g (by decide) e6 v_book v_label v_run
theorem s_labels : FnScope ["book", "stock", "plan", "found", "word", "run", "label"] ["book", "stock", "plan"] (defScope (top 29)) := ⟨rfl, rfl, rfl, by decide +kernel, rfl, by decide +kernel, by decide +kernel⟩
theorem r_labels {X : Cx} {k : Nat} {E : XK} (ce : Ce k (wdE E (xcB X.mg xbL)) ["book", "stock", "plan", "found", "word", "run", "label"] (defScope (top 29)) X) (g : G X.prog X.w X.K X.mg X.base) (hk : 24 ≤ k) (v_book v_stock v_plan : D) :
    Run X (wdE E (xcB X.mg xbL)) (fun _ : Unit => [.no, .no, .no, .no, .no, .no, .no]) (fun e : Empty => e.elim) (fun _ : Unit => []) [.d v_book, .d v_stock, .d v_plan, .no, .no, .no, .no] (defBody (top 29)) (o_labels v_book v_stock v_plan) :=
  have c := ce.toCd; (run_ifx (eE := fun e => e.elim) (evt_nx (evt_not (evt_val (Ev.look (ev_call2 ce.q.toCw (noW_quiet (wd := wdE E (xcB X.mg xbL))) (Df.cx (d_is_plan g)) (Nat.le_trans (by decide) hk) (by decide +kernel) (ev_var ce.q.toCw (i := 0) (by decide +kernel) (by rfl) (by rfl)) (ev_var ce.q.toCw (i := 2) (by decide +kernel) (by rfl) (by rfl))))))) (run_raiseB ce g.x_BadPlan (l := xbL) (c0 := 0) rfl rfl (by decide +kernel)) (run_setO c (i := 3) (by decide +kernel) (by rfl) (by rfl) (evl_nx (evl_lst1 (ev_var ce.q.toCw (i := 1) (by decide +kernel) (by rfl) (by rfl)))) (fun v_found => (run_for2 (S1 := List D) (eS1 := fun (s1 : List D) => [.d v_book, .d v_stock, .d v_plan, .l s1, .no, .no, .no]) (s0 := v_found) c (i := 4) (j := 5) (by decide +kernel) (by rfl) (by decide +kernel) (by rfl) (evi_nx (evi_seq (ev_var ce.q.toCw (i := 2) (by decide +kernel) (by rfl) (by rfl)))) (le_eq (le_eq (le_eq (le_eq (le_no (le_no (le_no le_nil))))))) (fun s1 v_word v_run => (run_set c (i := 6) (by decide +kernel) (by rfl) (ev_nx (ev_ifExp (evt_eq ce.q.toCw (Ev.look (ev_var ce.q.toCw (i := 4) (by decide +kernel) (by rfl) (by rfl))) (Ev.look ev_str)) (ev_call3 ce.q.toCw (noW_quiet (wd := wdE E (xcB X.mg xbL))) (Df.cx (d_behind g)) (Nat.le_trans (by decide) hk) (by decide +kernel) (ev_var ce.q.toCw (i := 0) (by decide +kernel) (by rfl) (by rfl)) (ev_ix (evb_own ce.q.toCw (i := 3) (by decide +kernel) (by rfl) (by rfl)) (Ev.look (ev_neg (Ev.look ev_int)))) (ev_var ce.q.toCw (i := 5) (by decide +kernel) (by rfl) (by rfl))) (ev_call3 ce.q.toCw (noW_quiet (wd := wdE E (xcB X.mg xbL))) (Df.cx (d_pumped g)) (Nat.le_trans (by decide) hk) (by decide +kernel) (ev_var ce.q.toCw (i := 0) (by decide +kernel) (by rfl) (by rfl)) (ev_ix (evb_own ce.q.toCw (i := 3) (by decide +kernel) (by rfl) (by rfl)) (Ev.look (ev_neg (Ev.look ev_int)))) (ev_var ce.q.toCw (i := 5) (by decide +kernel) (by rfl) (by rfl))))) (fun v_label => (run_ifx (eE := fun e => e.elim) (evt_nx (evt_is (Ev.look (ev_var ce.q.toCw (i := 6) (by decide +kernel) (by rfl) (by rfl))) (Ev.look ev_non))) (run_raiseB ce g.x_BadPlan (l := xbL) (c0 := 0) rfl rfl (by decide +kernel)) (run_app c (i := 3) (by decide +kernel) (by rfl) (by rfl) (ev_nx (ev_var ce.q.toCw (i := 6) (by decide +kernel) (by rfl) (by rfl))) (fun v_found => (run_nil (le_eq (le_eq (le_eq (le_eq (le_no (le_no (le_no le_nil)))))))))))))) (fun s1 => (run_retO c (i := 3) (by decide +kernel) (by rfl) (by rfl) ht0'))))))
theorem d_labels {P : Program} {w : World} {K : PySem.W.Frag} {mg : Str → Option Value} {base : Heap} (g : G P w K mg base) : Df P w K mg base (L2.CX P w) 25 "labels" (spE K (xcB mg xbL) 3 (l3 m_labels)) :=
  df_ofE g.at_labels s_labels (m := l3 m_labels) (o := l3 o_labels) (fun ds hl => match ds, hl with | [v_book, v_stock, v_plan], _ => rfl)
    fun X E c e1 e2 e3 e4 e5 e6 => by subst e1 e2 e3 e4 e5; exact fun ds hl => match ds, hl with | [v_book, v_stock, v_plan], _ => r_labels c g (by decide) v_book v_stock v_plan
theorem s_end_of : FnScope ["book", "stock", "plan"] ["book", "stock", "plan"] (defScope (top 30)) := ⟨rfl, rfl, rfl, by decide +kernel, rfl, by decide +kernel, by decide +kernel⟩
theorem r_end_of {X : Cx} {k : Nat} (c : Cd CX0 k wd0 ["book", "stock", "plan"] (defScope (top 30)) X) (W : NoW wd0) (g : G X.prog X.w X.K X.mg X.base) (hk : 25 ≤ k) (v_book v_stock v_plan : D) :
    Run X wd0 (fun _ : Unit => [.no, .no, .no]) (fun e : Empty => e.elim) (fun _ : Unit => []) [.d v_book, .d v_stock, .d v_plan] (defBody (top 30)) (o_end_of v_book v_stock v_plan) :=
  (run_tryR (eE := fun e : Empty => e.elim) (eE2 := fun e : Empty => e.elim) (eT := fun _ : Unit => []) (t := ()) c W g.x_BadPlan (l := xbL) (c0 := 0) rfl (by decide +kernel) (d_labels g) (Nat.le_trans (by decide) hk) (by decide +kernel) l3n (fun pn xe po => have ct := Cw.tr c W pn xe po; (eva_cons (ev_var ct (i := 0) (by decide +kernel) (by rfl) (by rfl)) (eva_cons (ev_var ct (i := 1) (by decide +kernel) (by rfl) (by rfl)) (eva_cons (ev_var ct (i := 2) (by decide +kernel) (by rfl) (by rfl)) eva_nil)))) (fun pn xe po => have ct := Cw.tr c W pn xe po; (ev_neg (Ev.look ev_int))) (fun a oe pn => have cs := c.suite a ((a, oe) :: pn); (run_ret (t := ()) ev_non ht0)) rfl)
theorem d_end_of {P : Program} {w : World} {K : PySem.W.Frag} {mg : Str → Option Value} {base : Heap} (g : G P w K mg base) : Df P w K mg base CX0 26 "end_of" (spP K 3 (l3 m_end_of)) :=
  df_of g.at_end_of s_end_of (m := l3 m_end_of) (o := l3 o_end_of) (fun ds hl => match ds, hl with | [v_book, v_stock, v_plan], _ => rfl)
    fun X c e1 e2 e3 e4 e5 e6 => by subst e1 e2 e3 e4 e5; exact fun ds hl => match ds, hl with | [v_book, v_stock, v_plan], _ => r_end_of c noW0 g (by decide) v_book v_stock v_plan
theorem s_is_report : FnScope ["book", "stock", "value", "rows", "row", "label", "plan"] ["book", "stock", "value"] (defScope (top 34)) := ⟨rfl, rfl, rfl, by decide +kernel, rfl, by decide +kernel, by decide +kernel⟩
theorem r_is_report {X : Cx} {k : Nat} (c : Cd CX0 k wd0 ["book", "stock", "value", "rows", "row", "label", "plan"] (defScope (top 34)) X) (W : NoW wd0) (g : G X.prog X.w X.K X.mg X.base) (hk : 28 ≤ k) (hcd : CodeX X.K "is_report" X) (v_book v_stock v_value : D) :
    Run X wd0 (fun _ : Unit => [.no, .no, .no, .no, .no, .no, .no]) (fun e : Empty => e.elim) (fun _ : Unit => []) [.d v_book, .d v_stock, .d v_value, .no, .no, .no, .no] (defBody (top 34)) (o_is_report v_book v_stock v_value) :=
  Exists.elim g.tab_is_report fun c0 h1 => Exists.elim h1 fun P0 ht => have gt : GTab X c0 P0 := ⟨⟨"is_report", (by decide), c0, ht⟩, g.tbl "is_report" (by decide) c0 P0 ht, hcd c0 P0 ht⟩; (run_ifx (eE := fun e => e.elim) (evt_w (evw_or (evt_not (evt_val (Ev.look (ev_isi (T := "tuple") c.toCw (by decide +kernel) g.bt.isinstance bv_isi (by decide +kernel) g.bt.tuple bv_tuple (Ev.look (ev_var c.toCw (i := 2) (by decide +kernel) (by rfl) (by rfl))))))) (evw_or1 (evt_not (evt_val (Ev.look (ev_gen1 (i := 4) (st := false) (Cw.sub2 c.toCw (Nat.le_trans (by decide) hk)) gt (by decide +kernel) (by decide +kernel) (by rfl) (by rfl) (by rfl) (evj_seq (Ev.look (ev_var c.toCw (i := 2) (by decide +kernel) (by rfl) (by rfl)))) (fun v_row s0 H0 C code it fp pn => have c1 := Cw.gen (Cw.sub2 c.toCw (Nat.le_trans (by decide) hk)) cx0F (Cw.sub2 c.toCw (Nat.le_trans (by decide) hk)).room _ _ _ _ _ s0 H0 C code it fp pn; have W2 := NoW.calm W; have hk := Nat.sub_le_sub_right hk 2; (ev_and (ev_isi (T := "tuple") c1 (by decide +kernel) g.bt.isinstance bv_isi (by decide +kernel) g.bt.tuple bv_tuple (Ev.look (ev_var c1 (i := 4) (by decide +kernel) (by rfl) (by rfl)))) (ev_one (ev_eq c1 (Ev.look (ev_len c1 g.bt (by decide +kernel) (Ev.look (ev_var c1 (i := 4) (by decide +kernel) (by rfl) (by rfl))))) (Ev.look ev_int))))) (.inr ⟨rfl, rfl⟩) (by decide +kernel) g.bt.all))))))) (run_ret (t := ()) ev_bl ht0) (run_set c (i := 3) (by decide +kernel) (by rfl) (ev_tuple c.toCw g.bt (by decide +kernel) (Ev.look (EvL.ev (evl_comp c.toCw (i := 4) (by decide +kernel) (by rfl) (by decide +kernel) (by rfl) (by rfl) (evj_seq (Ev.look (ev_var c.toCw (i := 2) (by decide +kernel) (by rfl) (by rfl)))) (fun v_row s0 H0 C cl fp => have c5 := Cw.blk c.toCw cx0F s0 H0 _ C cl fp; have W6 := NoW.calm W; (ev_ix (Ev.look (ev_var c5 (i := 4) (by decide +kernel) (by rfl) (by rfl))) (Ev.look ev_int))))))) (fun v_rows => (run_ifx (eE := fun e => e.elim) (evt_w (evw_or (evt_not (evt_val (Ev.look (ev_call3 c.toCw W (d_is_closed g) (Nat.le_trans (by decide) hk) (by decide +kernel) (ev_var c.toCw (i := 0) (by decide +kernel) (by rfl) (by rfl)) (ev_var c.toCw (i := 1) (by decide +kernel) (by rfl) (by rfl)) (ev_var c.toCw (i := 3) (by decide +kernel) (by rfl) (by rfl)))))) (evw_or (evt_not (evt_val (Ev.look (ev_call1 c.toCw W (d_are_apart g) (Nat.le_trans (by decide) hk) (by decide +kernel) (ev_var c.toCw (i := 3) (by decide +kernel) (by rfl) (by rfl)))))) (evw_or1 (evt_ne c.toCw (Ev.look (ev_list c.toCw g.bt (by decide +kernel) (Ev.look (ev_var c.toCw (i := 3) (by decide +kernel) (by rfl) (by rfl))))) (Ev.look (ev_call1 c.toCw W (d_in_order g) (Nat.le_trans (by decide) hk) (by decide +kernel) (ev_var c.toCw (i := 3) (by decide +kernel) (by rfl) (by rfl))))))))) (run_ret (t := ()) ev_bl ht0) (run_ret (t := ()) (ev_gen2 (i := 5) (j := 6) (st := false) (Cw.sub2 c.toCw (Nat.le_trans (by decide) hk)) gt (by decide +kernel) (by decide +kernel) (by rfl) (by rfl) (by rfl) (by rfl) (by rfl) (by rfl) (evj_seq (Ev.look (ev_var c.toCw (i := 2) (by decide +kernel) (by rfl) (by rfl)))) (fun v_label v_plan s0 H0 C code it fp pn => have c3 := Cw.gen (Cw.sub2 c.toCw (Nat.le_trans (by decide) hk)) cx0F (Cw.sub2 c.toCw (Nat.le_trans (by decide) hk)).room _ _ _ _ _ s0 H0 C code it fp pn; have W4 := NoW.calm W; have hk := Nat.sub_le_sub_right hk 2; (ev_eq c3 (Ev.look (ev_call3 c3 W4 (d_end_of g) (Nat.le_trans (by decide) hk) (by decide +kernel) (ev_var c3 (i := 0) (by decide +kernel) (by rfl) (by rfl)) (ev_var c3 (i := 1) (by decide +kernel) (by rfl) (by rfl)) (ev_var c3 (i := 6) (by decide +kernel) (by rfl) (by rfl)))) (Ev.look (ev_var c3 (i := 5) (by decide +kernel) (by rfl) (by rfl))))) (.inr ⟨rfl, rfl⟩) (by decide +kernel) g.bt.all) ht0)))))
theorem d_is_report {P : Program} {w : World} {K : PySem.W.Frag} {mg : Str → Option Value} {base : Heap} (g : G P w K mg base) : Df P w K mg base CX0 29 "is_report" (spP K 3 (l3 m_is_report)) :=
  df_of g.at_is_report s_is_report (m := l3 m_is_report) (o := l3 o_is_report) (fun ds hl => match ds, hl with | [v_book, v_stock, v_value], _ => rfl)
    fun X c e1 e2 e3 e4 e5 e6 => by subst e1 e2 e3 e4 e5; exact fun ds hl => match ds, hl with | [v_book, v_stock, v_value], _ => r_is_report c noW0 g (by decide) e6 v_book v_stock v_value
theorem s_law : FnScope ["_law_script", "_law_box_here", "_law_many", "_law_kinds", "_law_moves", "_law_stock", "_law_book", "_law_at", "_law_k", "_law_take", "_law_give", "_law_gaining", "_law_due", "_law_label", "_law_run", "_law_plan", "_law_entry_here", "_law_j"] ["_law_script"] (defScope (top 42)) := ⟨rfl, rfl, rfl, by decide +kernel, rfl, by decide +kernel, by decide +kernel⟩
theorem r_law {X : Cx} {k : Nat} {dra : Addr × Addr} (c : Cd CX0 k (wdD dra) ["_law_script", "_law_box_here", "_law_many", "_law_kinds", "_law_moves", "_law_stock", "_law_book", "_law_at", "_law_k", "_law_take", "_law_give", "_law_gaining", "_law_due", "_law_label", "_law_run", "_law_plan", "_law_entry_here", "_law_j"] (defScope (top 42)) X) (W : NoW (wdD dra)) (g : G X.prog X.w X.K X.mg X.base) (hk : 29 ≤ k) :
    Run X (wdD dra) (fun _ : Unit => [.no, .no, .no, .no, .no, .no, .no, .no, .no, .no, .no, .no, .no, .no, .no, .no, .no, .no]) (fun e : Empty => e.elim) (fun _ : Unit => []) [.no, .w, .no, .no, .no, .no, .no, .no, .no, .no, .no, .no, .no, .no, .no, .no, .no, .no] ((defBody (top 42)).tail) o_law :=
  (run_set c (i := 2) (by decide +kernel) (by rfl) (ev_add (Ev.look ev_int) (Ev.look (ev_callD1 c.toCw W (d_law_draw g) (Nat.le_trans (by decide) hk) (by decide +kernel) (i := 1) (by decide +kernel) (by rfl) (by rfl) ev_int))) (fun v_law_many => (run_set c (i := 3) (by decide +kernel) (by rfl) (ev_slice (Ev.look (ev_tup (eva_consP ev_str (eva_consP ev_str (eva_consP ev_str (eva_consP ev_str (eva_consP ev_str (eva_consP ev_str eva_nil)))))))) evp_none (evp_some (Ev.look (ev_var c.toCw (i := 2) (by decide +kernel) (by rfl) (by rfl))))) (fun v_law_kinds => (run_setC c (i := 4) (by decide +kernel) (by rfl) (j := 8) (by decide +kernel) (by rfl) (by decide +kernel) (by rfl) (by rfl) (EvI.j (evi_r1 c.toCw g.bt (by decide +kernel) (Ev.look (ev_callD1 c.toCw W (d_law_draw g) (Nat.le_trans (by decide) hk) (by decide +kernel) (i := 1) (by decide +kernel) (by rfl) (by rfl) ev_int)))) (fun v_law_k s0 H0 C cl fp => have c8 := Cw.blk c.toCw cx0F s0 H0 _ C cl fp; have W9 := NoW.calm W; (ev_callD2 c8 W9 (d_law_losing g) (Nat.le_trans (by decide) hk) (by decide +kernel) (i := 1) (by decide +kernel) (by rfl) (by rfl) (ev_var c8 (i := 2) (by decide +kernel) (by rfl) (by rfl)) (ev_add (Ev.look ev_str) (Ev.look (ev_strI c8 g.bt (by decide +kernel) (Ev.look (ev_var c8 (i := 8) (by decide +kernel) (by rfl) (by rfl)))))))) (fun v_law_moves => (run_set c (i := 5) (by decide +kernel) (by rfl) (ev_tuple c.toCw g.bt (by decide +kernel) (Ev.look (EvL.ev (evl_comp c.toCw (i := 8) (by decide +kernel) (by rfl) (by decide +kernel) (by rfl) (by rfl) (EvI.j (evi_r1 c.toCw g.bt (by decide +kernel) (Ev.look (ev_var c.toCw (i := 2) (by decide +kernel) (by rfl) (by rfl))))) (fun v_law_k s0 H0 C cl fp => have c6 := Cw.blk c.toCw cx0F s0 H0 _ C cl fp; have W7 := NoW.calm W; (ev_ix (Ev.look (EvL.ev (evl_lst3 (ev_callD1 c6 W7 (d_law_draw g) (Nat.le_trans (by decide) hk) (by decide +kernel) (i := 1) (by decide +kernel) (by rfl) (by rfl) ev_int) (ev_callD1 c6 W7 (d_law_draw g) (Nat.le_trans (by decide) hk) (by decide +kernel) (i := 1) (by decide +kernel) (by rfl) (by rfl) ev_int) (ev_callD1 c6 W7 (d_law_draw g) (Nat.le_trans (by decide) hk) (by decide +kernel) (i := 1) (by decide +kernel) (by rfl) (by rfl) ev_int)))) (Ev.look (ev_callD1 c6 W7 (d_law_draw g) (Nat.le_trans (by decide) hk) (by decide +kernel) (i := 1) (by decide +kernel) (by rfl) (by rfl) ev_int)))))))) (fun v_law_stock => (run_set c (i := 6) (by decide +kernel) (by rfl) (ev_tup2 (ev_var c.toCw (i := 3) (by decide +kernel) (by rfl) (by rfl)) (ev_tuple c.toCw g.bt (by decide +kernel) (Ev.look (ev_var c.toCw (i := 4) (by decide +kernel) (by rfl) (by rfl))))) (fun v_law_book => (run_ifx (eE := fun e => e.elim) (evt_w (evw_or (evt_isNot (Ev.look (ev_call3 c.toCw W (d_is_closed g) (Nat.le_trans (by decide) hk) (by decide +kernel) (ev_var c.toCw (i := 6) (by decide +kernel) (by rfl) (by rfl)) (ev_var c.toCw (i := 5) (by decide +kernel) (by rfl) (by rfl)) (ev_tup1 (ev_var c.toCw (i := 5) (by decide +kernel) (by rfl) (by rfl))))) (Ev.look ev_bl)) (evw_or1 (evt_isNot (Ev.look (ev_call3 c.toCw W (d_is_report g) (Nat.le_trans (by decide) hk) (by decide +kernel) (ev_var c.toCw (i := 6) (by decide +kernel) (by rfl) (by rfl)) (ev_var c.toCw (i := 5) (by decide +kernel) (by rfl) (by rfl)) (ev_tup1 (ev_tup2 (ev_var c.toCw (i := 5) (by decide +kernel) (by rfl) (by rfl)) ev_tup0)))) (Ev.look ev_bl))))) (run_ret (t := ()) ev_bl ht0) (run_set c (i := 7) (by decide +kernel) (by rfl) (ev_callD1 c.toCw W (d_law_draw g) (Nat.le_trans (by decide) hk) (by decide +kernel) (i := 1) (by decide +kernel) (by rfl) (by rfl) (ev_add (Ev.look (ev_len c.toCw g.bt (by decide +kernel) (Ev.look (ev_var c.toCw (i := 4) (by decide +kernel) (by rfl) (by rfl))))) (Ev.look ev_int))) (fun v_law_at => (run_set c (i := 8) (by decide +kernel) (by rfl) (ev_callD1 c.toCw W (d_law_draw g) (Nat.le_trans (by decide) hk) (by decide +kernel) (i := 1) (by decide +kernel) (by rfl) (by rfl) (ev_var c.toCw (i := 2) (by decide +kernel) (by rfl) (by rfl))) (fun v_law_k => (run_setO c (i := 9) (by decide +kernel) (by rfl) (by rfl) (evl_comp c.toCw (i := 16) (by decide +kernel) (by rfl) (by decide +kernel) (by rfl) (by rfl) (evj_seq (Ev.look (ev_var c.toCw (i := 5) (by decide +kernel) (by rfl) (by rfl)))) (fun v_law_entry_here s0 H0 C cl fp => have c4 := Cw.blk c.toCw cx0F s0 H0 _ C cl fp; have W5 := NoW.calm W; (ev_min c4 g.bt (by decide +kernel) (Ev.look ev_int) (Ev.look (ev_callD1 c4 W5 (d_law_draw g) (Nat.le_trans (by decide) hk) (by decide +kernel) (i := 1) (by decide +kernel) (by rfl) (by rfl) (ev_add (Ev.look (ev_var c4 (i := 16) (by decide +kernel) (by rfl) (by rfl))) (Ev.look ev_int))))))) (fun v_law_take => (run_if (eS1 := fun (s1 : List D) => [.no, .w, .d v_law_many, .d v_law_kinds, .d (.list v_law_moves), .d v_law_stock, .d v_law_book, .d v_law_at, .d v_law_k, .l s1, .no, .no, .no, .no, .no, .no, .no, .no]) (evt_eq c.toCw (Ev.look (ev_callD1 c.toCw W (d_law_draw g) (Nat.le_trans (by decide) hk) (by decide +kernel) (i := 1) (by decide +kernel) (by rfl) (by rfl) ev_int)) (Ev.look ev_int)) (run_putL c (i := 9) (by decide +kernel) (by rfl) (by rfl) ev_int (ev_callD1 c.toCw W (d_law_draw g) (Nat.le_trans (by decide) hk) (by decide +kernel) (i := 1) (by decide +kernel) (by rfl) (by rfl) (ev_var c.toCw (i := 2) (by decide +kernel) (by rfl) (by rfl))) (fun v_law_take => (run_nil (le_no (le_eq (le_eq (le_eq (le_eq (le_eq (le_eq (le_eq (le_eq (le_eq (le_no (le_no (le_no (le_no (le_no (le_no (le_no (le_no le_nil))))))))))))))))))))) (run_nil (le_no (le_eq (le_eq (le_eq (le_eq (le_eq (le_eq (le_eq (le_eq (le_eq (le_no (le_no (le_no (le_no (le_no (le_no (le_no (le_no le_nil))))))))))))))))))) (fun s1 => (run_putL c (i := 9) (by decide +kernel) (by rfl) (by rfl) (ev_min c.toCw g.bt (by decide +kernel) (Ev.look (ev_ix (evb_own c.toCw (i := 9) (by decide +kernel) (by rfl) (by rfl)) (Ev.look (ev_var c.toCw (i := 8) (by decide +kernel) (by rfl) (by rfl))))) (Ev.look ev_int)) (ev_var c.toCw (i := 8) (by decide +kernel) (by rfl) (by rfl)) (fun v_law_take => (run_setO c (i := 10) (by decide +kernel) (by rfl) (by rfl) (evl_list c.toCw g.bt (by decide +kernel) (evb_own c.toCw (i := 9) (by decide +kernel) (by rfl) (by rfl))) (fun v_law_give => (run_putL c (i := 10) (by decide +kernel) (by rfl) (by rfl) (ev_add (Ev.look (ev_add (Ev.look (ev_ix (evb_own c.toCw (i := 9) (by decide +kernel) (by rfl) (by rfl)) (Ev.look (ev_var c.toCw (i := 8) (by decide +kernel) (by rfl) (by rfl))))) (Ev.look ev_int))) (Ev.look (ev_callD1 c.toCw W (d_law_draw g) (Nat.le_trans (by decide) hk) (by decide +kernel) (i := 1) (by decide +kernel) (by rfl) (by rfl) ev_int))) (ev_var c.toCw (i := 8) (by decide +kernel) (by rfl) (by rfl)) (fun v_law_give => (run_set c (i := 11) (by decide +kernel) (by rfl) (ev_tup4 ev_str (ev_tuple c.toCw g.bt (by decide +kernel) (evb_own c.toCw (i := 9) (by decide +kernel) (by rfl) (by rfl))) (ev_mul (Ev.look (ev_tup1 ev_int)) (Ev.look (ev_var c.toCw (i := 2) (by decide +kernel) (by rfl) (by rfl)))) (ev_tuple c.toCw g.bt (by decide +kernel) (evb_own c.toCw (i := 10) (by decide +kernel) (by rfl) (by rfl)))) (fun v_law_gaining => (run_set c (i := 6) (by decide +kernel) (by rfl) (ev_tup2 (ev_var c.toCw (i := 3) (by decide +kernel) (by rfl) (by rfl)) (ev_tuple c.toCw g.bt (by decide +kernel) (Ev.look (ev_add (Ev.look (ev_add (Ev.look (ev_slice (Ev.look (ev_var c.toCw (i := 4) (by decide +kernel) (by rfl) (by rfl))) evp_none (evp_some (Ev.look (ev_var c.toCw (i := 7) (by decide +kernel) (by rfl) (by rfl)))))) (Ev.look (EvL.ev (evl_lst1 (ev_var c.toCw (i := 11) (by decide +kernel) (by rfl) (by rfl))))))) (Ev.look (ev_slice (Ev.look (ev_var c.toCw (i := 4) (by decide +kernel) (by rfl) (by rfl))) (evp_some (Ev.look (ev_var c.toCw (i := 7) (by decide +kernel) (by rfl) (by rfl)))) evp_none)))))) (fun v_law_book => (run_set c (i := 12) (by decide +kernel) (by rfl) (ev_any c.toCw g.bt (by decide +kernel) (Ev.look (EvL.ev (evl_comp c.toCw (i := 17) (by decide +kernel) (by rfl) (by decide +kernel) (by rfl) (by rfl) (EvI.j (evi_r1 c.toCw g.bt (by decide +kernel) (Ev.look (ev_var c.toCw (i := 2) (by decide +kernel) (by rfl) (by rfl))))) (fun v_law_j s0 H0 C cl fp => have c2 := Cw.blk c.toCw cx0F s0 H0 _ C cl fp; have W3 := NoW.calm W; (ev_gt (Ev.look (ev_ix (evb_own c2 (i := 9) (by decide +kernel) (by rfl) (by rfl)) (Ev.look (ev_var c2 (i := 17) (by decide +kernel) (by rfl) (by rfl))))) (Ev.look (ev_ix (Ev.look (ev_var c2 (i := 5) (by decide +kernel) (by rfl) (by rfl))) (Ev.look (ev_var c2 (i := 17) (by decide +kernel) (by rfl) (by rfl))))))))))) (fun v_law_due => (run_ifx (eE := fun e => e.elim) (evt_w (evw_or (evt_not (evt_val (Ev.look (ev_call2 c.toCw W (d_law_same g 2) (Nat.le_trans (by decide) hk) (by decide +kernel) (ev_call3 c.toCw W (d_is_closed g) (Nat.le_trans (by decide) hk) (by decide +kernel) (ev_var c.toCw (i := 6) (by decide +kernel) (by rfl) (by rfl)) (ev_var c.toCw (i := 5) (by decide +kernel) (by rfl) (by rfl)) (ev_tup1 (ev_var c.toCw (i := 5) (by decide +kernel) (by rfl) (by rfl)))) (ev_var c.toCw (i := 12) (by decide +kernel) (by rfl) (by rfl)))))) (evw_or1 (evt_not (evt_val (Ev.look (ev_call2 c.toCw W (d_law_same g 2) (Nat.le_trans (by decide) hk) (by decide +kernel) (ev_call3 c.toCw W (d_is_report g) (Nat.le_trans (by decide) hk) (by decide +kernel) (ev_var c.toCw (i := 6) (by decide +kernel) (by rfl) (by rfl)) (ev_var c.toCw (i := 5) (by decide +kernel) (by rfl) (by rfl)) (ev_tup1 (ev_tup2 (ev_var c.toCw (i := 5) (by decide +kernel) (by rfl) (by rfl)) ev_tup0))) (ev_var c.toCw (i := 12) (by decide +kernel) (by rfl) (by rfl))))))))) (run_ret (t := ()) ev_bl ht0) (run_set c (i := 13) (by decide +kernel) (by rfl) (ev_add (Ev.look (ev_add (Ev.look (ev_slice (Ev.look (ev_var c.toCw (i := 5) (by decide +kernel) (by rfl) (by rfl))) evp_none (evp_some (Ev.look (ev_var c.toCw (i := 8) (by decide +kernel) (by rfl) (by rfl)))))) (Ev.look (ev_tup1 (ev_con c.toCw (by decide +kernel) g.con_END))))) (Ev.look (ev_slice (Ev.look (ev_var c.toCw (i := 5) (by decide +kernel) (by rfl) (by rfl))) (evp_some (Ev.look (ev_add (Ev.look (ev_var c.toCw (i := 8) (by decide +kernel) (by rfl) (by rfl))) (Ev.look ev_int)))) evp_none))) (fun v_law_label => (run_set c (i := 14) (by decide +kernel) (by rfl) (ev_tup1 (ev_tup2 ev_str (ev_var c.toCw (i := 7) (by decide +kernel) (by rfl) (by rfl)))) (fun v_law_run => (run_set c (i := 15) (by decide +kernel) (by rfl) (ev_tup2 (ev_tup2 ev_str (ev_var c.toCw (i := 14) (by decide +kernel) (by rfl) (by rfl))) (ev_tup2 ev_str (ev_var c.toCw (i := 14) (by decide +kernel) (by rfl) (by rfl)))) (fun v_law_plan => (run_ifx (eE := fun e => e.elim) (evt_isNot (Ev.look (ev_call3 c.toCw W (d_is_closed g) (Nat.le_trans (by decide) hk) (by decide +kernel) (ev_var c.toCw (i := 6) (by decide +kernel) (by rfl) (by rfl)) (ev_var c.toCw (i := 5) (by decide +kernel) (by rfl) (by rfl)) (ev_tup1 (ev_var c.toCw (i := 13) (by decide +kernel) (by rfl) (by rfl))))) (Ev.look ev_bl)) (run_ret (t := ()) ev_bl ht0) (run_ifx (eE := fun e => e.elim) (evt_not (evt_val (Ev.look (ev_call2 c.toCw W (d_law_same g 2) (Nat.le_trans (by decide) hk) (by decide +kernel) (ev_call3 c.toCw W (d_is_report g) (Nat.le_trans (by decide) hk) (by decide +kernel) (ev_var c.toCw (i := 6) (by decide +kernel) (by rfl) (by rfl)) (ev_var c.toCw (i := 5) (by decide +kernel) (by rfl) (by rfl)) (ev_tup1 (ev_tup2 (ev_var c.toCw (i := 13) (by decide +kernel) (by rfl) (by rfl)) (ev_var c.toCw (i := 15) (by decide +kernel) (by rfl) (by rfl))))) (ev_not (ev_var c.toCw (i := 12) (by decide +kernel) (by rfl) (by rfl))))))) (run_ret (t := ()) ev_bl ht0) (run_ret (t := ()) (ev_and (ev_is (Ev.look (ev_call3 c.toCw W (d_is_report g) (Nat.le_trans (by decide) hk) (by decide +kernel) (ev_var c.toCw (i := 6) (by decide +kernel) (by rfl) (by rfl)) (ev_var c.toCw (i := 5) (by decide +kernel) (by rfl) (by rfl)) (ev_tup1 (ev_tup2 (ev_var c.toCw (i := 13) (by decide +kernel) (by rfl) (by rfl)) (ev_slice (Ev.look (ev_var c.toCw (i := 15) (by decide +kernel) (by rfl) (by rfl))) evp_none (evp_some (Ev.look ev_int))))))) (Ev.look ev_bl)) (ev_one (ev_is (Ev.look (ev_call3 c.toCw W (d_is_report g) (Nat.le_trans (by decide) hk) (by decide +kernel) (ev_var c.toCw (i := 6) (by decide +kernel) (by rfl) (by rfl)) (ev_var c.toCw (i := 5) (by decide +kernel) (by rfl) (by rfl)) (ev_tup1 (ev_tup2 (ev_var c.toCw (i := 13) (by decide +kernel) (by rfl) (by rfl)) ev_tup0)))) (Ev.look ev_bl)))) ht0))))))))))))))))))))))))) (cell_swaps c.toCw (by decide +kernel))))))))))))))))))
theorem d_law {P : Program} {w : World} {K : PySem.W.Frag} {mg : Str → Option Value} {base : Heap} (g : G P w K mg base) {f : Addr} {fd : FuncData} (F : Fun K "law" "law" (top 42) f fd) (ho : o_law.wp (fun x => ∃ t, x = .rt (.bool true) t) fun _ _ => False) :
    FnOk P w K mg base CX0 30 f fd ["_law_script"] (spLaw K) :=
  ok_lawB F s_law rfl (d_law_box g) (by decide) (by decide +kernel) rfl (fun X a c e1 e2 e3 e4 e5 => by subst e1 e2 e3 e4 e5; exact r_law c (noWD a) g (by decide)) ho
theorem all_mk {l : PySem.W.OpenLaw} {w : World} {K : PySem.W.Frag} {h : Heap} {mg : Str → Option Value} {fa : Addr} (X : K.In h) (Gm : h.Ns mainGlobals mg) (hfa : mg "law" = some (.ref fa))
    {f1 : Addr} {od1 an1 : Option Addr} {sl1 : Array (Option Value)} {oc1 kV1 dc1 pm1 cd1 ct1 : Value}
    {f2 : Addr} {od2 an2 : Option Addr} {sl2 : Array (Option Value)} {oc2 kV2 dc2 pm2 cd2 ct2 : Value}
    {f3 : Addr} {od3 an3 : Option Addr} {sl3 : Array (Option Value)} {oc3 kV3 dc3 pm3 cd3 ct3 : Value}
    {f4 : Addr} {od4 an4 : Option Addr} {sl4 : Array (Option Value)} {oc4 kV4 dc4 pm4 cd4 ct4 : Value}
    {f5 : Addr} {od5 an5 : Option Addr} {sl5 : Array (Option Value)} {oc5 kV5 dc5 pm5 cd5 ct5 : Value}
    {f6 : Addr} {od6 an6 : Option Addr} {sl6 : Array (Option Value)} {oc6 kV6 dc6 pm6 cd6 ct6 : Value}
    {f7 : Addr} {od7 an7 : Option Addr} {sl7 : Array (Option Value)} {oc7 kV7 dc7 pm7 cd7 ct7 : Value}
    {f8 : Addr} {od8 an8 : Option Addr} {sl8 : Array (Option Value)} {oc8 kV8 dc8 pm8 cd8 ct8 : Value}
    {f9 : Addr} {od9 an9 : Option Addr} {sl9 : Array (Option Value)} {oc9 kV9 dc9 pm9 cd9 ct9 : Value}
    {f10 : Addr} {od10 an10 : Option Addr} {sl10 : Array (Option Value)} {oc10 kV10 dc10 pm10 cd10 ct10 : Value}
    {f11 : Addr} {od11 an11 : Option Addr} {sl11 : Array (Option Value)} {oc11 kV11 dc11 pm11 cd11 ct11 : Value}
    {f12 : Addr} {od12 an12 : Option Addr} {sl12 : Array (Option Value)} {oc12 kV12 dc12 pm12 cd12 ct12 : Value}
    {f13 : Addr} {od13 an13 : Option Addr} {sl13 : Array (Option Value)} {oc13 kV13 dc13 pm13 cd13 ct13 : Value}
    {f14 : Addr} {od14 an14 : Option Addr} {sl14 : Array (Option Value)} {oc14 kV14 dc14 pm14 cd14 ct14 : Value}
    {f15 : Addr} {od15 an15 : Option Addr} {sl15 : Array (Option Value)} {oc15 kV15 dc15 pm15 cd15 ct15 : Value}
    {f16 : Addr} {od16 an16 : Option Addr} {sl16 : Array (Option Value)} {oc16 kV16 dc16 pm16 cd16 ct16 : Value}
    {f17 : Addr} {od17 an17 : Option Addr} {sl17 : Array (Option Value)} {oc17 kV17 dc17 pm17 cd17 ct17 : Value}
    {f18 : Addr} {od18 an18 : Option Addr} {sl18 : Array (Option Value)} {oc18 kV18 dc18 pm18 cd18 ct18 : Value}
    {f19 : Addr} {od19 an19 : Option Addr} {sl19 : Array (Option Value)} {oc19 kV19 dc19 pm19 cd19 ct19 : Value}
    {f20 : Addr} {od20 an20 : Option Addr} {sl20 : Array (Option Value)} {oc20 kV20 dc20 pm20 ct20 : Value} {cT20 PT20 : Addr} {vT20 : Array Value} {odT20 : Option Addr} {slT20 : Array (Option Value)} {ocT20 : Value}
    {f21 : Addr} {od21 an21 : Option Addr} {sl21 : Array (Option Value)} {oc21 kV21 dc21 pm21 cd21 ct21 : Value}
    {f22 : Addr} {od22 an22 : Option Addr} {sl22 : Array (Option Value)} {oc22 kV22 dc22 pm22 cd22 ct22 : Value}
    {f23 : Addr} {od23 an23 : Option Addr} {sl23 : Array (Option Value)} {oc23 kV23 dc23 pm23 ct23 : Value} {cT23 PT23 : Addr} {vT23 : Array Value} {odT23 : Option Addr} {slT23 : Array (Option Value)} {ocT23 : Value}
    {f24 : Addr} {od24 an24 : Option Addr} {sl24 : Array (Option Value)} {oc24 kV24 dc24 pm24 cd24 ct24 : Value}
    {f25 : Addr} {od25 an25 : Option Addr} {sl25 : Array (Option Value)} {oc25 kV25 dc25 pm25 ct25 : Value} {cT25 PT25 : Addr} {vT25 : Array Value} {odT25 : Option Addr} {slT25 : Array (Option Value)} {ocT25 : Value}
    {f26 : Addr} {od26 an26 : Option Addr} {sl26 : Array (Option Value)} {oc26 kV26 dc26 pm26 cd26 ct26 : Value}
    {f27 : Addr} {od27 an27 : Option Addr} {sl27 : Array (Option Value)} {oc27 kV27 dc27 pm27 cd27 ct27 : Value}
    {f28 : Addr} {od28 an28 : Option Addr} {sl28 : Array (Option Value)} {oc28 kV28 dc28 pm28 cd28 ct28 : Value}
    {f29 : Addr} {od29 an29 : Option Addr} {sl29 : Array (Option Value)} {oc29 kV29 dc29 pm29 cd29 ct29 : Value}
    {f30 : Addr} {od30 an30 : Option Addr} {sl30 : Array (Option Value)} {oc30 kV30 dc30 pm30 cd30 ct30 : Value}
    {f31 : Addr} {od31 an31 : Option Addr} {sl31 : Array (Option Value)} {oc31 kV31 dc31 pm31 cd31 ct31 : Value}
    {f32 : Addr} {od32 an32 : Option Addr} {sl32 : Array (Option Value)} {oc32 kV32 dc32 pm32 cd32 ct32 : Value}
    {t_END : Tok}
    {t_MAX_NESTED : Tok}
    {xC33 : Addr}
    (a1 : PySem.W.nsIn K mainGlobals "plus" = some (some (.ref f1))) (l1 : K.lookup f1 = some ⟨oc1, od1, .func (PySem.W.fnOf "plus" "plus" (defArgs (top 1)) (defBody (top 1)) (defScope (top 1)) .none kV1 dc1 pm1 an1 cd1 ct1), sl1⟩) (c1 : PySem.W.codeIn K cd1 "plus" = true) (k1 : PySem.W.keepIn K (.ref f1) = true)
    (a2 : PySem.W.nsIn K mainGlobals "less" = some (some (.ref f2))) (l2 : K.lookup f2 = some ⟨oc2, od2, .func (PySem.W.fnOf "less" "less" (defArgs (top 2)) (defBody (top 2)) (defScope (top 2)) .none kV2 dc2 pm2 an2 cd2 ct2), sl2⟩) (c2 : PySem.W.codeIn K cd2 "less" = true) (k2 : PySem.W.keepIn K (.ref f2) = true)
    (a3 : PySem.W.nsIn K mainGlobals "times" = some (some (.ref f3))) (l3 : K.lookup f3 = some ⟨oc3, od3, .func (PySem.W.fnOf "times" "times" (defArgs (top 3)) (defBody (top 3)) (defScope (top 3)) .none kV3 dc3 pm3 an3 cd3 ct3), sl3⟩) (c3 : PySem.W.codeIn K cd3 "times" = true) (k3 : PySem.W.keepIn K (.ref f3) = true)
    (a4 : PySem.W.nsIn K mainGlobals "greater" = some (some (.ref f4))) (l4 : K.lookup f4 = some ⟨oc4, od4, .func (PySem.W.fnOf "greater" "greater" (defArgs (top 4)) (defBody (top 4)) (defScope (top 4)) .none kV4 dc4 pm4 an4 cd4 ct4), sl4⟩) (c4 : PySem.W.codeIn K cd4 "greater" = true) (k4 : PySem.W.keepIn K (.ref f4) = true)
    (a5 : PySem.W.nsIn K mainGlobals "covers" = some (some (.ref f5))) (l5 : K.lookup f5 = some ⟨oc5, od5, .func (PySem.W.fnOf "covers" "covers" (defArgs (top 5)) (defBody (top 5)) (defScope (top 5)) .none kV5 dc5 pm5 an5 cd5 ct5), sl5⟩) (c5 : PySem.W.codeIn K cd5 "covers" = true) (k5 : PySem.W.keepIn K (.ref f5) = true)
    (a6 : PySem.W.nsIn K mainGlobals "need_and_change" = some (some (.ref f6))) (l6 : K.lookup f6 = some ⟨oc6, od6, .func (PySem.W.fnOf "need_and_change" "need_and_change" (defArgs (top 6)) (defBody (top 6)) (defScope (top 6)) .none kV6 dc6 pm6 an6 cd6 ct6), sl6⟩) (c6 : PySem.W.codeIn K cd6 "need_and_change" = true) (k6 : PySem.W.keepIn K (.ref f6) = true)
    (a7 : PySem.W.nsIn K mainGlobals "need" = some (some (.ref f7))) (l7 : K.lookup f7 = some ⟨oc7, od7, .func (PySem.W.fnOf "need" "need" (defArgs (top 7)) (defBody (top 7)) (defScope (top 7)) .none kV7 dc7 pm7 an7 cd7 ct7), sl7⟩) (c7 : PySem.W.codeIn K cd7 "need" = true) (k7 : PySem.W.keepIn K (.ref f7) = true)
    (a8 : PySem.W.nsIn K mainGlobals "change" = some (some (.ref f8))) (l8 : K.lookup f8 = some ⟨oc8, od8, .func (PySem.W.fnOf "change" "change" (defArgs (top 8)) (defBody (top 8)) (defScope (top 8)) .none kV8 dc8 pm8 an8 cd8 ct8), sl8⟩) (c8 : PySem.W.codeIn K cd8 "change" = true) (k8 : PySem.W.keepIn K (.ref f8) = true)
    (a9 : PySem.W.nsIn K mainGlobals "order_key" = some (some (.ref f9))) (l9 : K.lookup f9 = some ⟨oc9, od9, .func (PySem.W.fnOf "order_key" "order_key" (defArgs (top 11)) (defBody (top 11)) (defScope (top 11)) .none kV9 dc9 pm9 an9 cd9 ct9), sl9⟩) (c9 : PySem.W.codeIn K cd9 "order_key" = true) (k9 : PySem.W.keepIn K (.ref f9) = true)
    (a10 : PySem.W.nsIn K mainGlobals "in_order" = some (some (.ref f10))) (l10 : K.lookup f10 = some ⟨oc10, od10, .func (PySem.W.fnOf "in_order" "in_order" (defArgs (top 12)) (defBody (top 12)) (defScope (top 12)) .none kV10 dc10 pm10 an10 cd10 ct10), sl10⟩) (c10 : PySem.W.codeIn K cd10 "in_order" = true) (k10 : PySem.W.keepIn K (.ref f10) = true)
    (a11 : PySem.W.nsIn K mainGlobals "moved" = some (some (.ref f11))) (l11 : K.lookup f11 = some ⟨oc11, od11, .func (PySem.W.fnOf "moved" "moved" (defArgs (top 13)) (defBody (top 13)) (defScope (top 13)) .none kV11 dc11 pm11 an11 cd11 ct11), sl11⟩) (c11 : PySem.W.codeIn K cd11 "moved" = true) (k11 : PySem.W.keepIn K (.ref f11) = true)
    (a12 : PySem.W.nsIn K mainGlobals "behind" = some (some (.ref f12))) (l12 : K.lookup f12 = some ⟨oc12, od12, .func (PySem.W.fnOf "behind" "behind" (defArgs (top 14)) (defBody (top 14)) (defScope (top 14)) .none kV12 dc12 pm12 an12 cd12 ct12), sl12⟩) (c12 : PySem.W.codeIn K cd12 "behind" = true) (k12 : PySem.W.keepIn K (.ref f12) = true)
    (a13 : PySem.W.nsIn K mainGlobals "is_number" = some (some (.ref f13))) (l13 : K.lookup f13 = some ⟨oc13, od13, .func (PySem.W.fnOf "is_number" "is_number" (defArgs (top 20)) (defBody (top 20)) (defScope (top 20)) .none kV13 dc13 pm13 an13 cd13 ct13), sl13⟩) (c13 : PySem.W.codeIn K cd13 "is_number" = true) (k13 : PySem.W.keepIn K (.ref f13) = true)
    (a14 : PySem.W.nsIn K mainGlobals "is_entries" = some (some (.ref f14))) (l14 : K.lookup f14 = some ⟨oc14, od14, .func (PySem.W.fnOf "is_entries" "is_entries" (defArgs (top 21)) (defBody (top 21)) (defScope (top 21)) .none kV14 dc14 pm14 an14 cd14 ct14), sl14⟩) (c14 : PySem.W.codeIn K cd14 "is_entries" = true) (k14 : PySem.W.keepIn K (.ref f14) = true)
    (a15 : PySem.W.nsIn K mainGlobals "is_extended" = some (some (.ref f15))) (l15 : K.lookup f15 = some ⟨oc15, od15, .func (PySem.W.fnOf "is_extended" "is_extended" (defArgs (top 22)) (defBody (top 22)) (defScope (top 22)) .none kV15 dc15 pm15 an15 cd15 ct15), sl15⟩) (c15 : PySem.W.codeIn K cd15 "is_extended" = true) (k15 : PySem.W.keepIn K (.ref f15) = true)
    (a16 : PySem.W.nsIn K mainGlobals "is_step" = some (some (.ref f16))) (l16 : K.lookup f16 = some ⟨oc16, od16, .func (PySem.W.fnOf "is_step" "is_step" (defArgs (top 23)) (defBody (top 23)) (defScope (top 23)) .none kV16 dc16 pm16 an16 cd16 ct16), sl16⟩) (c16 : PySem.W.codeIn K cd16 "is_step" = true) (k16 : PySem.W.keepIn K (.ref f16) = true)
    (a17 : PySem.W.nsIn K mainGlobals "are_steps" = some (some (.ref f17))) (l17 : K.lookup f17 = some ⟨oc17, od17, .func (PySem.W.fnOf "are_steps" "are_steps" (defArgs (top 24)) (defBody (top 24)) (defScope (top 24)) .none kV17 dc17 pm17 an17 cd17 ct17), sl17⟩) (c17 : PySem.W.codeIn K cd17 "are_steps" = true) (k17 : PySem.W.keepIn K (.ref f17) = true)
    (a18 : PySem.W.nsIn K mainGlobals "is_run" = some (some (.ref f18))) (l18 : K.lookup f18 = some ⟨oc18, od18, .func (PySem.W.fnOf "is_run" "is_run" (defArgs (top 25)) (defBody (top 25)) (defScope (top 25)) .none kV18 dc18 pm18 an18 cd18 ct18), sl18⟩) (c18 : PySem.W.codeIn K cd18 "is_run" = true) (k18 : PySem.W.keepIn K (.ref f18) = true)
    (a19 : PySem.W.nsIn K mainGlobals "is_plan" = some (some (.ref f19))) (l19 : K.lookup f19 = some ⟨oc19, od19, .func (PySem.W.fnOf "is_plan" "is_plan" (defArgs (top 27)) (defBody (top 27)) (defScope (top 27)) .none kV19 dc19 pm19 an19 cd19 ct19), sl19⟩) (c19 : PySem.W.codeIn K cd19 "is_plan" = true) (k19 : PySem.W.keepIn K (.ref f19) = true)
    (a20 : PySem.W.nsIn K mainGlobals "pumped" = some (some (.ref f20))) (l20 : K.lookup f20 = some ⟨oc20, od20, .func (PySem.W.fnOf "pumped" "pumped" (defArgs (top 28)) (defBody (top 28)) (defScope (top 28)) .none kV20 dc20 pm20 an20 (Value.ref cT20) ct20), sl20⟩) (c20 : PySem.W.codeIn K (Value.ref cT20) "pumped" = true) (k20 : PySem.W.keepIn K (.ref f20) = true) (lc20 : K.lookup cT20 = some ⟨ocT20, odT20, .fields vT20, slT20⟩) (hv20 : vT20[11]? = some (.ref PT20))
    (a21 : PySem.W.nsIn K mainGlobals "labels" = some (some (.ref f21))) (l21 : K.lookup f21 = some ⟨oc21, od21, .func (PySem.W.fnOf "labels" "labels" (defArgs (top 29)) (defBody (top 29)) (defScope (top 29)) .none kV21 dc21 pm21 an21 cd21 ct21), sl21⟩) (c21 : PySem.W.codeIn K cd21 "labels" = true) (k21 : PySem.W.keepIn K (.ref f21) = true)
    (a22 : PySem.W.nsIn K mainGlobals "end_of" = some (some (.ref f22))) (l22 : K.lookup f22 = some ⟨oc22, od22, .func (PySem.W.fnOf "end_of" "end_of" (defArgs (top 30)) (defBody (top 30)) (defScope (top 30)) .none kV22 dc22 pm22 an22 cd22 ct22), sl22⟩) (c22 : PySem.W.codeIn K cd22 "end_of" = true) (k22 : PySem.W.keepIn K (.ref f22) = true)
    (a23 : PySem.W.nsIn K mainGlobals "is_closed" = some (some (.ref f23))) (l23 : K.lookup f23 = some ⟨oc23, od23, .func (PySem.W.fnOf "is_closed" "is_closed" (defArgs (top 32)) (defBody (top 32)) (defScope (top 32)) .none kV23 dc23 pm23 an23 (Value.ref cT23) ct23), sl23⟩) (c23 : PySem.W.codeIn K (Value.ref cT23) "is_closed" = true) (k23 : PySem.W.keepIn K (.ref f23) = true) (lc23 : K.lookup cT23 = some ⟨ocT23, odT23, .fields vT23, slT23⟩) (hv23 : vT23[11]? = some (.ref PT23))
    (a24 : PySem.W.nsIn K mainGlobals "are_apart" = some (some (.ref f24))) (l24 : K.lookup f24 = some ⟨oc24, od24, .func (PySem.W.fnOf "are_apart" "are_apart" (defArgs (top 33)) (defBody (top 33)) (defScope (top 33)) .none kV24 dc24 pm24 an24 cd24 ct24), sl24⟩) (c24 : PySem.W.codeIn K cd24 "are_apart" = true) (k24 : PySem.W.keepIn K (.ref f24) = true)
    (a25 : PySem.W.nsIn K mainGlobals "is_report" = some (some (.ref f25))) (l25 : K.lookup f25 = some ⟨oc25, od25, .func (PySem.W.fnOf "is_report" "is_report" (defArgs (top 34)) (defBody (top 34)) (defScope (top 34)) .none kV25 dc25 pm25 an25 (Value.ref cT25) ct25), sl25⟩) (c25 : PySem.W.codeIn K (Value.ref cT25) "is_report" = true) (k25 : PySem.W.keepIn K (.ref f25) = true) (lc25 : K.lookup cT25 = some ⟨ocT25, odT25, .fields vT25, slT25⟩) (hv25 : vT25[11]? = some (.ref PT25))
    (a26 : PySem.W.nsIn K mainGlobals "_law_same" = some (some (.ref f26))) (l26 : K.lookup f26 = some ⟨oc26, od26, .func (PySem.W.fnOf "_law_same" "_law_same" (defArgs (top 36)) (defBody (top 36)) (defScope (top 36)) .none kV26 dc26 pm26 an26 cd26 ct26), sl26⟩) (c26 : PySem.W.codeIn K cd26 "_law_same" = true) (k26 : PySem.W.keepIn K (.ref f26) = true)
    (a27 : PySem.W.nsIn K mainGlobals "_law_box" = some (some (.ref f27))) (l27 : K.lookup f27 = some ⟨oc27, od27, .func (PySem.W.fnOf "_law_box" "_law_box" (defArgs (top 37)) (defBody (top 37)) (defScope (top 37)) .none kV27 dc27 pm27 an27 cd27 ct27), sl27⟩) (c27 : PySem.W.codeIn K cd27 "_law_box" = true) (k27 : PySem.W.keepIn K (.ref f27) = true)
    (a28 : PySem.W.nsIn K mainGlobals "_law_load" = some (some (.ref f28))) (l28 : K.lookup f28 = some ⟨oc28, od28, .func (PySem.W.fnOf "_law_load" "_law_load" (defArgs (top 38)) (defBody (top 38)) (defScope (top 38)) .none kV28 dc28 pm28 an28 cd28 ct28), sl28⟩) (c28 : PySem.W.codeIn K cd28 "_law_load" = true) (k28 : PySem.W.keepIn K (.ref f28) = true)
    (a29 : PySem.W.nsIn K mainGlobals "_law_draw" = some (some (.ref f29))) (l29 : K.lookup f29 = some ⟨oc29, od29, .func (PySem.W.fnOf "_law_draw" "_law_draw" (defArgs (top 39)) (defBody (top 39)) (defScope (top 39)) .none kV29 dc29 pm29 an29 cd29 ct29), sl29⟩) (c29 : PySem.W.codeIn K cd29 "_law_draw" = true) (k29 : PySem.W.keepIn K (.ref f29) = true)
    (a30 : PySem.W.nsIn K mainGlobals "_law_entry" = some (some (.ref f30))) (l30 : K.lookup f30 = some ⟨oc30, od30, .func (PySem.W.fnOf "_law_entry" "_law_entry" (defArgs (top 40)) (defBody (top 40)) (defScope (top 40)) .none kV30 dc30 pm30 an30 cd30 ct30), sl30⟩) (c30 : PySem.W.codeIn K cd30 "_law_entry" = true) (k30 : PySem.W.keepIn K (.ref f30) = true)
    (a31 : PySem.W.nsIn K mainGlobals "_law_losing" = some (some (.ref f31))) (l31 : K.lookup f31 = some ⟨oc31, od31, .func (PySem.W.fnOf "_law_losing" "_law_losing" (defArgs (top 41)) (defBody (top 41)) (defScope (top 41)) .none kV31 dc31 pm31 an31 cd31 ct31), sl31⟩) (c31 : PySem.W.codeIn K cd31 "_law_losing" = true) (k31 : PySem.W.keepIn K (.ref f31) = true)
    (a32 : PySem.W.nsIn K mainGlobals "law" = some (some (.ref f32))) (l32 : K.lookup f32 = some ⟨oc32, od32, .func (PySem.W.fnOf "law" "law" (defArgs (top 42)) (defBody (top 42)) (defScope (top 42)) .none kV32 dc32 pm32 an32 cd32 ct32), sl32⟩) (c32 : PySem.W.codeIn K cd32 "law" = true) (k32 : PySem.W.keepIn K (.ref f32) = true)
    (z_len : PySem.W.nsIn K mainGlobals "len" = some none)
    (z_range : PySem.W.nsIn K mainGlobals "range" = some none)
    (z_tuple : PySem.W.nsIn K mainGlobals "tuple" = some none)
    (z_list : PySem.W.nsIn K mainGlobals "list" = some none)
    (z_sum : PySem.W.nsIn K mainGlobals "sum" = some none)
    (z_max : PySem.W.nsIn K mainGlobals "max" = some none)
    (z_min : PySem.W.nsIn K mainGlobals "min" = some none)
    (z_abs : PySem.W.nsIn K mainGlobals "abs" = some none)
    (z_int : PySem.W.nsIn K mainGlobals "int" = some none)
    (z_str : PySem.W.nsIn K mainGlobals "str" = some none)
    (z_all : PySem.W.nsIn K mainGlobals "all" = some none)
    (z_any : PySem.W.nsIn K mainGlobals "any" = some none)
    (z_isinstance : PySem.W.nsIn K mainGlobals "isinstance" = some none)
    (z_bool : PySem.W.nsIn K mainGlobals "bool" = some none)
    (z_sorted : PySem.W.nsIn K mainGlobals "sorted" = some none)
    (con_END : PySem.W.nsIn K mainGlobals "END" = some (some (.int (-1) t_END)))
    (con_MAX_NESTED : PySem.W.nsIn K mainGlobals "MAX_NESTED" = some (some (.int (30) t_MAX_NESTED)))
    (xa33 : PySem.W.nsIn K mainGlobals "BadPlan" = some (some (.ref xC33)))
    (xex33 : PySem.W.excIn K xC33 [.type "ValueError", .type "Exception", .type "BaseException", .type "object"] "ValueError.__new__" = true)
    (xkC33 : PySem.W.keepIn K (.ref xC33) = true)
    (xty33 : PySem.W.typeIn K (.ref xC33) = some (.type "type"))
    (xse33 : PySem.W.subIn K (.ref xC33) (.ref xC33) = some true)
    (xga33 : PySem.W.findIn K (.ref xC33) "__getattribute__" = some (some (.builtin "BaseException.__getattribute__")))
    (xgg33 : PySem.W.findIn K (.ref xC33) "__getattr__" = some none)
    (xeb33 : PySem.W.subIn K (.ref xC33) (.type "BaseException") = some true)
    (xhd33 : PySem.W.hasDictIn K xC33 = true)
    (xha33 : PySem.W.findIn K (.ref xC33) "__class__" = some (some (.builtin "object.__class__")))
    (xhn33 : PySem.W.specialIn K (.builtin "object.__class__") "__get__" = some (some (.builtin "getset_descriptor.__get__")))
    (xht33 : PySem.W.takesIn K (.builtin "object.__class__") = some true)
    (xhm33 : PySem.W.mroIn K xC33 (.type "object") = some true)
    : ∃ fd : FuncData, (∀ (s : Shared) (v : Value), BindsTo s fd ⟨[v], []⟩ [("_law_script", v)]) ∧ ∀ base : Heap, K.In base → base.Ns mainGlobals mg → (∀ y ∈ TNames, ∀ c P, PySem.W.tabIn K y = some (c, P) → GxR.TabB base mg c P) → FnOk l.prog w K mg base CX0 30 fa fd ["_law_script"] (spLaw K) :=
  law_mkT (PB := fun base => ∀ y ∈ TNames, ∀ c P, PySem.W.tabIn K y = some (c, P) → GxR.TabB base mg c P) X Gm hfa a32 l32 c32 k32 (fun s v => .of_eq rfl) fun fd base hPB F =>
    have g : G l.prog w K mg base := {
      bt := ⟨PySem.W.mg_none_of X Gm z_len, PySem.W.mg_none_of X Gm z_range, PySem.W.mg_none_of X Gm z_tuple, PySem.W.mg_none_of X Gm z_list, PySem.W.mg_none_of X Gm z_sum, PySem.W.mg_none_of X Gm z_max, PySem.W.mg_none_of X Gm z_min, PySem.W.mg_none_of X Gm z_abs, PySem.W.mg_none_of X Gm z_int, PySem.W.mg_none_of X Gm z_str, PySem.W.mg_none_of X Gm z_all, PySem.W.mg_none_of X Gm z_any, PySem.W.mg_none_of X Gm z_isinstance, PySem.W.mg_none_of X Gm z_bool, PySem.W.mg_none_of X Gm z_sorted⟩
      tbl := hPB
      at_plus := at_mk X Gm a1 l1 c1 k1 (fun fd F => F.binds fun _ _ _ _ _ _ us hl => match us, hl with | [_, _], _ => rfl)
      at_less := at_mk X Gm a2 l2 c2 k2 (fun fd F => F.binds fun _ _ _ _ _ _ us hl => match us, hl with | [_, _], _ => rfl)
      at_times := at_mk X Gm a3 l3 c3 k3 (fun fd F => F.binds fun _ _ _ _ _ _ us hl => match us, hl with | [_, _], _ => rfl)
      at_greater := at_mk X Gm a4 l4 c4 k4 (fun fd F => F.binds fun _ _ _ _ _ _ us hl => match us, hl with | [_, _], _ => rfl)
      at_covers := at_mk X Gm a5 l5 c5 k5 (fun fd F => F.binds fun _ _ _ _ _ _ us hl => match us, hl with | [_, _], _ => rfl)
      at_need_and_change := at_mk X Gm a6 l6 c6 k6 (fun fd F => F.binds fun _ _ _ _ _ _ us hl => match us, hl with | [_, _], _ => rfl)
      at_need := at_mk X Gm a7 l7 c7 k7 (fun fd F => F.binds fun _ _ _ _ _ _ us hl => match us, hl with | [_, _], _ => rfl)
      at_change := at_mk X Gm a8 l8 c8 k8 (fun fd F => F.binds fun _ _ _ _ _ _ us hl => match us, hl with | [_, _], _ => rfl)
      at_order_key := at_mk X Gm a9 l9 c9 k9 (fun fd F => F.binds fun _ _ _ _ _ _ us hl => match us, hl with | [_], _ => rfl)
      at_in_order := at_mk X Gm a10 l10 c10 k10 (fun fd F => F.binds fun _ _ _ _ _ _ us hl => match us, hl with | [_], _ => rfl)
      at_moved := at_mk X Gm a11 l11 c11 k11 (fun fd F => F.binds fun _ _ _ _ _ _ us hl => match us, hl with | [_, _], _ => rfl)
      at_behind := at_mk X Gm a12 l12 c12 k12 (fun fd F => F.binds fun _ _ _ _ _ _ us hl => match us, hl with | [_, _, _], _ => rfl)
      at_is_number := at_mk X Gm a13 l13 c13 k13 (fun fd F => F.binds fun _ _ _ _ _ _ us hl => match us, hl with | [_, _, _], _ => rfl)
      at_is_entries := at_mk X Gm a14 l14 c14 k14 (fun fd F => F.binds fun _ _ _ _ _ _ us hl => match us, hl with | [_, _, _, _], _ => rfl)
      at_is_extended := at_mk X Gm a15 l15 c15 k15 (fun fd F => F.binds fun _ _ _ _ _ _ us hl => match us, hl with | [_, _], _ => rfl)
      at_is_step := at_mk X Gm a16 l16 c16 k16 (fun fd F => F.binds fun _ _ _ _ _ _ us hl => match us, hl with | [_, _, _], _ => rfl)
      at_are_steps := at_mk X Gm a17 l17 c17 k17 (fun fd F => F.binds fun _ _ _ _ _ _ us hl => match us, hl with | [_, _, _], _ => rfl)
      at_is_run := at_mk X Gm a18 l18 c18 k18 (fun fd F => F.binds fun _ _ _ _ _ _ us hl => match us, hl with | [_, _], _ => rfl)
      at_is_plan := at_mk X Gm a19 l19 c19 k19 (fun fd F => F.binds fun _ _ _ _ _ _ us hl => match us, hl with | [_, _], _ => rfl)
      at_pumped := at_mk X Gm a20 l20 c20 k20 (fun fd F => F.binds fun _ _ _ _ _ _ us hl => match us, hl with | [_, _, _], _ => rfl)
      tab_pumped := tab_mk a20 l20 lc20 hv20
      at_labels := at_mk X Gm a21 l21 c21 k21 (fun fd F => F.binds fun _ _ _ _ _ _ us hl => match us, hl with | [_, _, _], _ => rfl)
      at_end_of := at_mk X Gm a22 l22 c22 k22 (fun fd F => F.binds fun _ _ _ _ _ _ us hl => match us, hl with | [_, _, _], _ => rfl)
      at_is_closed := at_mk X Gm a23 l23 c23 k23 (fun fd F => F.binds fun _ _ _ _ _ _ us hl => match us, hl with | [_, _, _], _ => rfl)
      tab_is_closed := tab_mk a23 l23 lc23 hv23
      at_are_apart := at_mk X Gm a24 l24 c24 k24 (fun fd F => F.binds fun _ _ _ _ _ _ us hl => match us, hl with | [_], _ => rfl)
      at_is_report := at_mk X Gm a25 l25 c25 k25 (fun fd F => F.binds fun _ _ _ _ _ _ us hl => match us, hl with | [_, _, _], _ => rfl)
      tab_is_report := tab_mk a25 l25 lc25 hv25
      at_law_same := at_mk X Gm a26 l26 c26 k26 (fun fd F => F.binds fun _ _ _ _ _ _ us hl => match us, hl with | [_, _], _ => rfl)
      at_law_box := at_mk X Gm a27 l27 c27 k27 (fun fd F => F.binds fun _ _ _ _ _ _ us hl => match us, hl with | [_, _], _ => rfl)
      at_law_load := at_mk X Gm a28 l28 c28 k28 (fun fd F => F.binds fun _ _ _ _ _ _ us hl => match us, hl with | [_], _ => rfl)
      at_law_draw := at_mk X Gm a29 l29 c29 k29 (fun fd F => F.binds fun _ _ _ _ _ _ us hl => match us, hl with | [_, _], _ => rfl)
      at_law_entry := at_mk X Gm a30 l30 c30 k30 (fun fd F => F.binds fun _ _ _ _ _ _ us hl => match us, hl with | [_], _ => rfl)
      at_law_losing := at_mk X Gm a31 l31 c31 k31 (fun fd F => F.binds fun _ _ _ _ _ _ us hl => match us, hl with | [_, _, _], _ => rfl)
      at_law := at_mk X Gm a32 l32 c32 k32 (fun fd F => F.binds fun _ _ _ _ _ _ us hl => match us, hl with | [_], _ => rfl)
      con_END := con_mk_int X Gm con_END
      con_MAX_NESTED := con_mk_int X Gm con_MAX_NESTED
      x_BadPlan := xcb_mk X Gm xa33 xex33 xkC33 xty33 xse33 xga33 xgg33 xeb33 xhd33 xha33 xhn33 xht33 xhm33 }
    d_law g F  fin_o
end k46
open PySem PySem.W PyProof.Rows
set_option maxHeartbeats 0 in
theorem PySem.Challenge.cw_mintlaw_k46_great_books_holds : PySem.Challenge.rw_mintlaw_k46_great_books.Holds := by
  w_on; o_law; k_head; (case hw => w_witness2)
  k_fill
  refine Pu.walk_ofF (l := PySem.Challenge.rw_mintlaw_k46_great_books) (n := 63) (k := 30) (x := "_law_script") (CX := fun _ => L2.CX0) rfl (by decide) rfl ⟨rfl, by decide, by decide⟩ (fun w h Y => PySem.W.kIn_of Y) ?hrec ?htab ?F (by decide) (fun _ _ _ _ _ h => h)
  case hrec => kernel_rfl
  case htab => intro w; kernel_rfl
  case F =>
    intro w mg fa h KX G hmg
    refine' k46.all_mk KX G hmg ?a1 ?l1 ?c1 ?k1 ?a2 ?l2 ?c2 ?k2 ?a3 ?l3 ?c3 ?k3 ?a4 ?l4 ?c4 ?k4 ?a5 ?l5 ?c5 ?k5 ?a6 ?l6 ?c6 ?k6 ?a7 ?l7 ?c7 ?k7 ?a8 ?l8 ?c8 ?k8 ?a9 ?l9 ?c9 ?k9 ?a10 ?l10 ?c10 ?k10 ?a11 ?l11 ?c11 ?k11 ?a12 ?l12 ?c12 ?k12 ?a13 ?l13 ?c13 ?k13 ?a14 ?l14 ?c14 ?k14 ?a15 ?l15 ?c15 ?k15 ?a16 ?l16 ?c16 ?k16 ?a17 ?l17 ?c17 ?k17 ?a18 ?l18 ?c18 ?k18 ?a19 ?l19 ?c19 ?k19 ?a20 ?l20 ?c20 ?k20 ?lc20 ?hv20 ?a21 ?l21 ?c21 ?k21 ?a22 ?l22 ?c22 ?k22 ?a23 ?l23 ?c23 ?k23 ?lc23 ?hv23 ?a24 ?l24 ?c24 ?k24 ?a25 ?l25 ?c25 ?k25 ?lc25 ?hv25 ?a26 ?l26 ?c26 ?k26 ?a27 ?l27 ?c27 ?k27 ?a28 ?l28 ?c28 ?k28 ?a29 ?l29 ?c29 ?k29 ?a30 ?l30 ?c30 ?k30 ?a31 ?l31 ?c31 ?k31 ?a32 ?l32 ?c32 ?k32 ?z_len ?z_range ?z_tuple ?z_list ?z_sum ?z_max ?z_min ?z_abs ?z_int ?z_str ?z_all ?z_any ?z_isinstance ?z_bool ?z_sorted ?con_END ?con_MAX_NESTED ?xa33 ?xex33 ?xkC33 ?xty33 ?xse33 ?xga33 ?xgg33 ?xeb33 ?xhd33 ?xha33 ?xhn33 ?xht33 ?xhm33
    (case a1 => k_is); (case l1 => k_is); (case c1 => k_is); (case k1 => k_is); (case a2 => k_is); (case l2 => k_is); (case c2 => k_is); (case k2 => k_is)
    (case a3 => k_is); (case l3 => k_is); (case c3 => k_is); (case k3 => k_is); (case a4 => k_is); (case l4 => k_is); (case c4 => k_is); (case k4 => k_is)
    (case a5 => k_is); (case l5 => k_is); (case c5 => k_is); (case k5 => k_is); (case a6 => k_is); (case l6 => k_is); (case c6 => k_is); (case k6 => k_is)
    (case a7 => k_is); (case l7 => k_is); (case c7 => k_is); (case k7 => k_is); (case a8 => k_is); (case l8 => k_is); (case c8 => k_is); (case k8 => k_is)
    (case a9 => k_is); (case l9 => k_is); (case c9 => k_is); (case k9 => k_is); (case a10 => k_is); (case l10 => k_is); (case c10 => k_is); (case k10 => k_is)
    (case a11 => k_is); (case l11 => k_is); (case c11 => k_is); (case k11 => k_is); (case a12 => k_is); (case l12 => k_is); (case c12 => k_is); (case k12 => k_is)
    (case a13 => k_is); (case l13 => k_is); (case c13 => k_is); (case k13 => k_is); (case a14 => k_is); (case l14 => k_is); (case c14 => k_is); (case k14 => k_is)
    (case a15 => k_is); (case l15 => k_is); (case c15 => k_is); (case k15 => k_is); (case a16 => k_is); (case l16 => k_is); (case c16 => k_is); (case k16 => k_is)
    (case a17 => k_is); (case l17 => k_is); (case c17 => k_is); (case k17 => k_is); (case a18 => k_is); (case l18 => k_is); (case c18 => k_is); (case k18 => k_is)
    (case a19 => k_is); (case l19 => k_is); (case c19 => k_is); (case k19 => k_is); (case a20 => k_is); (case l20 => k_is); (case c20 => k_is); (case k20 => k_is)
    (case lc20 => k_is); (case hv20 => rfl); (case a21 => k_is); (case l21 => k_is); (case c21 => k_is); (case k21 => k_is); (case a22 => k_is); (case l22 => k_is)
    (case c22 => k_is); (case k22 => k_is); (case a23 => k_is); (case l23 => k_is); (case c23 => k_is); (case k23 => k_is); (case lc23 => k_is); (case hv23 => rfl)
    (case a24 => k_is); (case l24 => k_is); (case c24 => k_is); (case k24 => k_is); (case a25 => k_is); (case l25 => k_is); (case c25 => k_is); (case k25 => k_is)
    (case lc25 => k_is); (case hv25 => rfl); (case a26 => k_is); (case l26 => k_is); (case c26 => k_is); (case k26 => k_is); (case a27 => k_is); (case l27 => k_is)
    (case c27 => k_is); (case k27 => k_is); (case a28 => k_is); (case l28 => k_is); (case c28 => k_is); (case k28 => k_is); (case a29 => k_is); (case l29 => k_is)
    (case c29 => k_is); (case k29 => k_is); (case a30 => k_is); (case l30 => k_is); (case c30 => k_is); (case k30 => k_is); (case a31 => k_is); (case l31 => k_is)
    (case c31 => k_is); (case k31 => k_is); (case a32 => k_is); (case l32 => k_is); (case c32 => k_is); (case k32 => k_is); (case z_len => k_is); (case z_range => k_is)
    (case z_tuple => k_is); (case z_list => k_is); (case z_sum => k_is); (case z_max => k_is); (case z_min => k_is); (case z_abs => k_is); (case z_int => k_is); (case z_str => k_is)
    (case z_all => k_is); (case z_any => k_is); (case z_isinstance => k_is); (case z_bool => k_is); (case z_sorted => k_is); (case con_END => k_is); (case con_MAX_NESTED => k_is); (case xa33 => k_is)
    (case xex33 => kernel_rfl); (case xkC33 => k_is); (case xty33 => k_is); (case xse33 => k_is); (case xga33 => k_is); (case xgg33 => k_is); (case xeb33 => k_is); (case xhd33 => k_is)
    (case xha33 => k_is); (case xhn33 => k_is); (case xht33 => k_is); (case xhm33 => k_is)
