import PyProof.Rows.All
import Wide.All
import OpenK.AllK
import Wide.FinOn
import HandS.ForMost
import HandS.TupAny
import HandS.TupLe
import HandS.TupMul
import HandS.IsInst
import KE.KNest
import KE.KTupSum
import HandS.DictTup
import HandS.DictEq
import HandS.Conv
import HandS.DictComp
import KE.SortData
import KE.DataCmp
import KE.DataAny
import KE.KDictSum
import HandS.Deep
import HandS.Text
import HandS.Strs
import HandS.Dict
import PyProof.Rows.SetFrom
import KE.KRevSl
import HandS.Style
import HandS.FromBytesMap
import KE.SortKeyed
import HandS.SortKw
import PySem.Challenge.RW_mintlaw_k01_texts_read_back
set_option Elab.async false
set_option linter.all false
set_option maxRecDepth 100000
set_option maxHeartbeats 4000000
namespace Pu
open PySem
def TNames : List Str := []
end Pu
/-! Pd: the plain side: data, the monad of results (with draws), the operations of the language on data. -/
namespace Pu
open PySem
abbrev D := PyData
/-- a result: a value, a raised error (its class's number, its field), nothing known, a draw below n -/
inductive R (α : Type) : Type where
  | ret (a : α)
  | exc (c : Nat) (x : D)
  | bad
  | pick (n : Int) (k : Int → R α)
namespace R
variable {α β γ : Type}
def bind : R α → (α → R β) → R β
  | ret a, f => f a
  | exc c x, _ => exc c x
  | bad, _ => bad
  | pick n k, f => pick n fun i => bind (k i) f
/-- every end bears it -/
def wp (Q : α → Prop) (E : Nat → D → Prop) : R α → Prop
  | ret a => Q a
  | exc c x => E c x
  | bad => False
  | pick n k => ∀ i, 0 ≤ i → i < n → wp Q E (k i)
theorem bind_assoc (r : R α) (f : α → R β) (g : β → R γ) : (r.bind f).bind g = r.bind fun a => (f a).bind g := by
  induction r with
  | ret a => rfl
  | exc c x => rfl
  | bad => rfl
  | pick n k ih => show pick n _ = pick n _; congr 1; funext i; exact ih i
theorem wp_bind {Q : β → Prop} {E : Nat → D → Prop} {f : α → R β} : ∀ {r : R α}, wp Q E (r.bind f) ↔ wp (fun a => wp Q E (f a)) E r
  | ret a => Iff.rfl
  | exc c x => Iff.rfl
  | bad => Iff.rfl
  | pick n k => by
    show (∀ i, 0 ≤ i → i < n → wp Q E ((k i).bind f)) ↔ ∀ i, 0 ≤ i → i < n → wp (fun a => wp Q E (f a)) E (k i)
    exact ⟨fun h i a b => wp_bind.mp (h i a b), fun h i a b => wp_bind.mpr (h i a b)⟩
theorem wp_mono {Q Q' : α → Prop} {E E' : Nat → D → Prop} (hq : ∀ a, Q a → Q' a) (he : ∀ c x, E c x → E' c x) : ∀ {r : R α}, wp Q E r → wp Q' E' r
  | ret a, h => hq a h
  | exc c x, h => he c x h
  | bad, h => h
  | pick n k, h => fun i a b => wp_mono hq he (h i a b)
theorem wp_ite {Q : α → Prop} {E : Nat → D → Prop} {c : Prop} [Decidable c] {r : R α} (h : wp Q E (if c then r else bad)) : c ∧ wp Q E r := by
  by_cases hc : c
  · rw [if_pos hc] at h; exact ⟨hc, h⟩
  · rw [if_neg hc] at h; exact h.elim
@[simp] theorem ret_bind (a : α) (f : α → R β) : (ret a).bind f = f a := rfl
@[simp] theorem exc_bind (c : Nat) (x : D) (f : α → R β) : (exc c x).bind f = exc c x := rfl
@[simp] theorem bad_bind (f : α → R β) : (bad : R α).bind f = bad := rfl
@[simp] theorem wp_ret (Q : α → Prop) (E : Nat → D → Prop) (a : α) : wp Q E (ret a) ↔ Q a := Iff.rfl
@[simp] theorem wp_exc (Q : α → Prop) (E : Nat → D → Prop) (c : Nat) (x : D) : wp Q E (exc c x : R α) ↔ E c x := Iff.rfl
@[simp] theorem wp_bad (Q : α → Prop) (E : Nat → D → Prop) : wp Q E (bad : R α) ↔ False := Iff.rfl
end R
open R
/-- how a block ends: it goes on with s, leaves or turns its loop with b, hands back d and what the in-out arguments hold -/
inductive Out (S B T : Type) : Type where
  | nx (s : S)
  | bk (b : B)
  | ct (b : B)
  | rt (d : D) (t : T)
section
variable {S S' B T : Type}
/-- behind a block -/
def seqR (r : R (Out S B T)) (f : S → R (Out S' B T)) : R (Out S' B T) := r.bind fun o => match o with
  | .nx s => f s
  | .bk b => ret (.bk b)
  | .ct b => ret (.ct b)
  | .rt d t => ret (.rt d t)
/-- for x in items: .. -/
def forR {α : Type} (f : α → S → R (Out S S T)) : List α → S → R (Out S B T)
  | [], s => ret (.nx s)
  | x :: xs, s => (f x s).bind fun o => match o with
    | .nx s' => forR f xs s'
    | .ct s' => forR f xs s'
    | .bk s' => ret (.nx s')
    | .rt d t => ret (.rt d t)
/-- while .., at most so many turns -/
def whileR (c : S → R Bool) (f : S → R (Out S S T)) : Nat → S → R (Out S B T)
  | 0, _ => bad
  | n + 1, s => (c s).bind fun b => if b = true then ((f s).bind fun o => match o with
    | .nx s' => whileR c f n s'
    | .ct s' => whileR c f n s'
    | .bk s' => ret (.nx s')
    | .rt d t => ret (.rt d t)) else ret (.nx s)
/-- a def's end -/
def outD : Out Unit Empty T → R D
  | .nx _ => ret .none
  | .rt d _ => ret d
def endR0 (r : R (Out Unit Empty T)) : R D := r.bind outD
end
/-! ### lists by monads -/
def mapR {α β : Type} (f : α → R β) : List α → R (List β)
  | [] => ret []
  | x :: xs => (f x).bind fun y => (mapR f xs).bind fun ys => ret (y :: ys)
/-- no error may come of it -/
def nx {α : Type} : R α → R α
  | .ret a => .ret a
  | .exc _ _ => .bad
  | .bad => .bad
  | .pick n k => .pick n fun i => nx (k i)
@[simp] theorem nx_ret {α : Type} (a : α) : nx (R.ret a) = R.ret a := rfl
theorem wp_nx {α : Type} {Q : α → Prop} {E E' : Nat → D → Prop} : ∀ {r : R α}, wp Q E (nx r) → wp Q E' r
  | .ret a, h => h
  | .exc c x, h => h.elim
  | .bad, h => h
  | .pick n k, h => fun i a b => wp_nx (h i a b)
/-- a comprehension's list: the items that pass, mapped; acc: what is made so far -/
def compR {α β : Type} (c : α → R Bool) (f : α → R β) : List α → List β → R (List β)
  | [], acc => ret acc
  | x :: xs, acc => (nx (c x)).bind fun b => if b = true then ((nx (f x)).bind fun y => if acc.length < sizeLine then compR c f xs (acc ++ [y]) else bad) else compR c f xs acc
def yesR {α : Type} (_ : α) : R Bool := ret true
/-! ### operations on data -/
def boolR : D → R Bool
  | .bool b => ret b
  | _ => bad
/-- the truth of a value -/
def truR : D → R Bool
  | .none => ret false
  | .bool b => ret b
  | .int i => ret (i != 0)
  | .str x => if x.length ≤ sizeLine then ret (x.length != 0) else bad
  | .list xs => ret (!xs.isEmpty)
  | .tuple xs => ret (!xs.isEmpty)
  | _ => bad
def addR : D → D → R D
  | .int i, .int j => ret (.int (i + j))
  | .str i, .str j => if i.length + j.length ≤ sizeLine then ret (.str (i ++ j)) else bad
  | .tuple xs, .tuple ys => if xs.length + ys.length ≤ sizeLine then ret (.tuple (xs ++ ys)) else bad
  | .list xs, .list ys => if xs.length + ys.length ≤ sizeLine then ret (.list (xs ++ ys)) else bad
  | _, _ => bad
def subR : D → D → R D
  | .int i, .int j => ret (.int (i - j))
  | _, _ => bad
def mulOk (i j : Int) : Prop := (-(2 ^ 64) < i ∧ i < 2 ^ 64) ∨ (-(2 ^ 64) < j ∧ j < 2 ^ 64)
instance (i j : Int) : Decidable (mulOk i j) := by unfold mulOk; exact inferInstance
def mulR : D → D → R D
  | .int i, .int j => if mulOk i j then ret (.int (i * j)) else bad
  | .tuple xs, .int k => if xs ≠ [] ∧ 1 ≤ k ∧ k ≤ 1000 ∧ xs.length ≤ 1000 then ret (.tuple (List.replicate k.toNat xs).flatten) else bad
  | .list xs, .int k => if -(2 ^ 63) ≤ k ∧ k < 2 ^ 63 ∧ xs.length * k.toNat ≤ sizeLine then ret (.list (List.replicate k.toNat xs).flatten) else bad
  | _, _ => bad
def fdLine : Nat := 2 ^ 200
def CDivL (_ j : Int) : Prop := j ≠ 0 ∧ j.natAbs < fdLine
instance (i j : Int) : Decidable (CDivL i j) := by unfold CDivL; exact inferInstance
def fdivR : D → D → R D
  | .int i, .int j => if CDivL i j then ret (.int (i.fdiv j)) else bad
  | _, _ => bad
def modR : D → D → R D
  | .int i, .int j => if j ≠ 0 then ret (.int (i.fmod j)) else bad
  | _, _ => bad
def powR : D → D → R D
  | .int i, .int j => if 0 ≤ j ∧ j ≤ 1000000 ∧ i.natAbs < 2 ^ 64 then ret (.int (i ^ j.toNat)) else bad
  | _, _ => bad
def negR : D → R D
  | .int i => ret (.int (-i))
  | _ => bad
def ltR : D → D → R D
  | .int i, .int j => ret (.bool (decide (i < j)))
  | _, _ => bad
def leR : D → D → R D
  | .int i, .int j => ret (.bool (decide (i ≤ j)))
  | _, _ => bad
def gtR : D → D → R D
  | .int i, .int j => ret (.bool (decide (j < i)))
  | _, _ => bad
def geR : D → D → R D
  | .int i, .int j => ret (.bool (decide (j ≤ i)))
  | _, _ => bad
def eqR (x y : D) : R D := if SeqAt.shaped x = true ∧ SeqAt.shaped y = true then ret (.bool (PyData.eqv x y)) else bad
def neR (x y : D) : R D := if SeqAt.shaped x = true ∧ SeqAt.shaped y = true then ret (.bool (!PyData.eqv x y)) else bad
def isNone : D → Bool
  | .none => true
  | _ => false
/-- x is c, c None, True or False -/
def isR (x c : D) : R D := match c with
  | .none => ret (.bool (isNone x))
  | .bool b => (match x with | .bool a => ret (.bool (decide (a = b))) | _ => bad)
  | _ => bad
def isNotR (x c : D) : R D := match c with
  | .none => ret (.bool (!isNone x))
  | .bool b => (match x with | .bool a => ret (.bool (!decide (a = b))) | _ => bad)
  | _ => bad
def notR : D → R D
  | .bool b => ret (.bool (!b))
  | _ => bad
def lenR : D → R D
  | .str x => if x.length ≤ sizeLine then ret (.int x.length) else bad
  | .list xs => ret (.int xs.length)
  | .tuple xs => ret (.int xs.length)
  | _ => bad
def optR {α : Type} : Option α → R α
  | some a => ret a
  | none => bad
def ixR : D → D → R D
  | .list xs, .int i => optR (L2.atI xs i)
  | .tuple xs, .int i => optR (L2.atI xs i)
  | .str z, .int i => if z.length ≤ sizeLine then (match L2.atI z.cps.toList i with | some c => ret (.str ⟨#[c]⟩) | none => bad) else bad
  | _, _ => bad
def cutD (xs : List D) (lo hi : Option Int) : List D := (xs.drop (HT.sIx xs.length 0 lo)).take (HT.sIx xs.length xs.length hi - HT.sIx xs.length 0 lo)
def partR : D → R (Option Int)
  | .int i => ret (some i)
  | _ => bad
def sliceR (x : D) (lo hi : Option Int) : R D := match x with
  | .list xs => ret (.list (cutD xs lo hi))
  | .tuple xs => ret (.tuple (cutD xs lo hi))
  | .str z => if z.length ≤ sizeLine then ret (.str (L2.cutS z lo hi)) else bad
  | _ => bad
def tupleR : D → R D
  | .list xs => ret (.tuple xs)
  | .tuple xs => ret (.tuple xs)
  | _ => bad
def listR : D → R D
  | .list xs => ret (.list xs)
  | .tuple xs => ret (.list xs)
  | _ => bad
def absR : D → R D
  | .int i => ret (.int (if i < 0 then -i else i))
  | _ => bad
def maxR : D → D → R D
  | .int i, .int j => ret (.int (if j > i then j else i))
  | _, _ => bad
def minR : D → D → R D
  | .int i, .int j => ret (.int (if j < i then j else i))
  | _, _ => bad
def intR : D → R D
  | .int i => ret (.int i)
  | .bool b => ret (.int (if b then 1 else 0))
  | _ => bad
def intOf : D → Option Int
  | .int i => some i
  | _ => none
def boolOf : D → Option Bool
  | .bool b => some b
  | _ => none
def allSome {α β : Type} (f : α → Option β) : List α → Option (List β)
  | [] => some []
  | x :: xs => match f x, allSome f xs with
    | some y, some ys => some (y :: ys)
    | _, _ => none
def sumR : D → R D
  | .list xs => (match allSome intOf xs with | some ns => ret (.int ns.sum) | none => bad)
  | .tuple xs => (match allSome intOf xs with | some ns => ret (.int ns.sum) | none => bad)
  | _ => bad
def allR : D → R D
  | .list xs => (match allSome boolOf xs with | some bs => ret (.bool (bs.all id)) | none => bad)
  | _ => bad
def anyR : D → R D
  | .list xs => (match allSome boolOf xs with | some bs => ret (.bool (bs.any id)) | none => bad)
  | _ => bad
/-- what a for walks -/
def itemsR : D → R (List D)
  | .str z => ret (z.cps.toList.map fun c => PyData.str ⟨#[c]⟩)
  | .list xs => ret xs
  | .tuple xs => ret xs
  | _ => bad
def rangeL (lo : Int) (n : Nat) : List D := (List.range n).map fun (k : Nat) => PyData.int (lo + k)
def rng1R : D → R (List D)
  | .int j => if -(2 ^ 62) ≤ j ∧ j < 2 ^ 62 then ret (rangeL 0 j.toNat) else bad
  | _ => bad
def rng2R : D → D → R (List D)
  | .int i, .int j => if -(2 ^ 62) ≤ i ∧ i < 2 ^ 62 ∧ -(2 ^ 62) ≤ j ∧ j < 2 ^ 62 then ret (rangeL i (j - i).toNat) else bad
  | _, _ => bad
/-- a tuple of n items -/
def unpR (n : Nat) : D → R (List D)
  | .tuple xs => if xs.length = n then ret xs else bad
  | _ => bad
/-- the name of a value's type -/
def tyN : D → String
  | .none => "NoneType"
  | .bool _ => "bool"
  | .int _ => "int"
  | .str _ => "str"
  | .list _ => "list"
  | .tuple _ => "tuple"
  | .dict _ => "dict"
def isiR (T : String) (d : D) : R D := match L2.kitB (tyN d) T with
  | some b => ret (.bool b)
  | none => bad
/-- a draw -/
def drawR : D → R D
  | .int n => if 0 < n then pick n fun i => ret (.int i) else bad
  | _ => bad
end Pu
/-! Pdr: where the draws stand (a dict). -/
namespace Pu
open PySem PySem.Spec PyProof.Rows L2 R
theorem rd_imp {H H' : Hp} {a : Addr} {u : HO} (h : Rd H a u) (f : ∀ x, H a = some x → H' a = some x) : Rd H' a u := h.imp (f _) fun ⟨o, z⟩ => ⟨o, f _ z⟩
/-- an object stands there, no tuple -/
def Bd (H : Hp) (b : Addr) : Prop := ∃ o, H b = some o ∧ ∀ xs, o ≠ HO.tup xs
/-- a code object's table, whatever stands in it -/
def TabF (P : Addr) : HO := .ext fun h => ∃ ps : Array Value, h.get? P = some { cls := .none, data := .fields ps } ∧ TriplesOk ps.toList
/-- the tables of the named defs -/
def KTab (K : PySem.W.Frag) (P : Addr) : Prop := ∃ x, x ∈ TNames ∧ ∃ c, PySem.W.tabIn K x = some (c, P)
def TbOk (K : PySem.W.Frag) (H : Hp) : Prop := ∀ P, KTab K P → H P = some (TabF P)
theorem TbOk.same {K : PySem.W.Frag} {H H' : Hp} (t : TbOk K H) (s : ∀ b o, H b = some o → H' b = some o) : TbOk K H' := fun P h => s _ _ (t P h)
/-- the draws: a dict with the place and the row -/
def DrAt (H : Hp) (a l : Addr) : Prop := ∃ (n : Int) (rows : List Int), 0 ≤ n ∧ H a = some (.dK [(Sum.inr "at", V.int n), (Sum.inr "row", V.ref l)]) ∧ Rd H l (.lst (rows.map V.int)) ∧ rows ≠ [] ∧ rows.length ≤ 1000
theorem DrAt.imp {H H' : Hp} {a l : Addr} (h : DrAt H a l) (ha : ∀ o, H a = some o → H' a = some o) (hl : ∀ o, H l = some o → H' l = some o) : DrAt H' a l := by
  obtain ⟨n, r, h0, h1, h2, h3⟩ := h
  exact ⟨n, r, h0, ha _ h1, rd_imp h2 hl, h3⟩
theorem DrAt.bd {H : Hp} {a l : Addr} (h : DrAt H a l) : Bd H a := by
  obtain ⟨_, _, _, e, _⟩ := h
  exact ⟨_, e, fun _ z => nomatch z⟩
theorem DrAt.bdl {H : Hp} {a l : Addr} (h : DrAt H a l) : Bd H l := by
  obtain ⟨_, _, _, _, e | ⟨_, e⟩, _⟩ := h <;> exact ⟨_, e, fun _ z => nomatch z⟩
theorem DrAt.nox {H : Hp} {a l b : Addr} {fs : List (Str × V)} (h : DrAt H a l) (z : b = a ∨ b = l) (e : H b = some (.xd fs)) : False := by
  obtain ⟨_, _, _, e1, e2, _⟩ := h
  rcases z with rfl | rfl
  · rw [e] at e1; cases e1
  · rcases e2 with e2 | ⟨_, e2⟩ <;> (rw [e] at e2; cases e2)
theorem DrAt.noT {H : Hp} {a l b : Addr} (h : DrAt H a l) (z : b = a ∨ b = l) (e : H b = some (TabF b)) : False := by
  obtain ⟨_, _, _, e1, e2, _⟩ := h
  rcases z with rfl | rfl
  · rw [e] at e1; cases e1
  · rcases e2 with e2 | ⟨_, e2⟩ <;> (rw [e] at e2; cases e2)
end Pu
/-! Pu: the walk by data: what stands in the slots as plain data, expressions and blocks that compute results of Pd, over the hand layer's readings. -/
namespace Pu
open PySem PySem.Spec PyProof.Rows L2 R
/-! ### what stands at a value -/
/-- a tuple that stays -/
def TpS (K : PySem.W.Frag) (B : Addr → Prop) (H : Hp) (a : Addr) (xs : List V) : Prop := H a = some (.tup xs) ∧ ¬ B a
theorem TpS.sq {K : PySem.W.Frag} {B : Addr → Prop} {H : Hp} {a : Addr} {xs : List V} (h : TpS K B H a xs) : SqT K H a xs := .inl (.inl h.1)
mutual
inductive Rep (K : PySem.W.Frag) (B : Addr → Prop) (H : Hp) : V → D → Prop
  | non : Rep K B H .non .none
  | bl (b : Bool) : Rep K B H (.bl b) (.bool b)
  | int (i : Int) : Rep K B H (.int i) (.int i)
  | str (x : Str) : Rep K B H (.str x) (.str x)
  | tup {a : Addr} {vs : List V} {ds : List D} : TpS K B H a vs → Reps K B H vs ds → Rep K B H (.ref a) (.tuple ds)
  | lst {a : Addr} {vs : List V} {ds : List D} : Rd H a (.lst vs) → ¬ B a → Reps K B H vs ds → Rep K B H (.ref a) (.list ds)
inductive Reps (K : PySem.W.Frag) (B : Addr → Prop) (H : Hp) : List V → List D → Prop
  | nil : Reps K B H [] []
  | cons {v : V} {vs : List V} {d : D} {ds : List D} : Rep K B H v d → Reps K B H vs ds → Reps K B H (v :: vs) (d :: ds)
end
/-- what stays: all but the banned -/
def Stay (B : Addr → Prop) (H H' : Hp) : Prop := ∀ b o, H b = some o → ¬ B b → H' b = some o
theorem Stay.refl (B : Addr → Prop) (H : Hp) : Stay B H H := fun _ _ h _ => h
theorem TpS.stay {K : PySem.W.Frag} {B : Addr → Prop} {H H' : Hp} {a : Addr} {vs : List V} (h : TpS K B H a vs) (s : Stay B H H') : TpS K B H' a vs := ⟨s _ _ h.1 h.2, h.2⟩
theorem TpS.ban {K : PySem.W.Frag} {B B' : Addr → Prop} {H : Hp} {a : Addr} {vs : List V} (h : TpS K B H a vs) (s : ∀ b, B' b → B b ∨ H b = none) : TpS K B' H a vs := by
  refine ⟨h.1, fun z => ?_⟩
  rcases s _ z with z | z
  · exact h.2 z
  · rw [h.1] at z; cases z
section
variable {K : PySem.W.Frag} {B B' : Addr → Prop} {H H' : Hp}
mutual
theorem Rep.stay (s : Stay B H H') : ∀ {d : D} {v : V}, Rep K B H v d → Rep K B H' v d
  | .none, _, h => by cases h; exact .non
  | .bool b, _, h => by cases h; exact .bl b
  | .int i, _, h => by cases h; exact .int i
  | .str x, _, h => by cases h; exact .str x
  | .tuple ds, _, h => by
    cases h with
    | tup a c => exact .tup (a.stay s) (Reps.stay s c)
  | .list ds, _, h => by
    cases h with
    | lst a b c => exact .lst (a.imp (fun z => s _ _ z b) fun ⟨o, z⟩ => ⟨o, s _ _ z b⟩) b (Reps.stay s c)
  | .dict _, _, h => by cases h
theorem Reps.stay (s : Stay B H H') : ∀ {ds : List D} {vs : List V}, Reps K B H vs ds → Reps K B H' vs ds
  | [], _, h => by cases h; exact .nil
  | d :: ds, _, h => by
    cases h with
    | cons a b => exact .cons (Rep.stay s a) (Reps.stay s b)
end
mutual
theorem Rep.weak (hb : ∀ b, B' b → B b) : ∀ {d : D} {v : V}, Rep K B H v d → Rep K B' H v d
  | .none, _, h => by cases h; exact .non
  | .bool b, _, h => by cases h; exact .bl b
  | .int i, _, h => by cases h; exact .int i
  | .str x, _, h => by cases h; exact .str x
  | .tuple ds, _, h => by
    cases h with
    | tup a c => exact .tup (a.ban fun b z => .inl (hb b z)) (Reps.weak hb c)
  | .list ds, _, h => by
    cases h with
    | lst a b c => exact .lst a (fun z => b (hb _ z)) (Reps.weak hb c)
  | .dict _, _, h => by cases h
theorem Reps.weak (hb : ∀ b, B' b → B b) : ∀ {ds : List D} {vs : List V}, Reps K B H vs ds → Reps K B' H vs ds
  | [], _, h => by cases h; exact .nil
  | d :: ds, _, h => by
    cases h with
    | cons a b => exact .cons (Rep.weak hb a) (Reps.weak hb b)
end
mutual
/-- a place of which nothing was known may be banned -/
theorem Rep.ban (hb : ∀ b, B' b → B b ∨ H b = Option.none) : ∀ {d : D} {v : V}, Rep K B H v d → Rep K B' H v d
  | .none, _, h => by cases h; exact .non
  | .bool b, _, h => by cases h; exact .bl b
  | .int i, _, h => by cases h; exact .int i
  | .str x, _, h => by cases h; exact .str x
  | .tuple ds, _, h => by
    cases h with
    | tup a c => exact .tup (a.ban hb) (Reps.ban hb c)
  | .list ds, _, h => by
    cases h with
    | lst a b c =>
      refine .lst a (fun z => ?_) (Reps.ban hb c)
      rcases hb _ z with z | z
      · exact b z
      · rcases a with a | ⟨o, a⟩ <;> (rw [z] at a; cases a)
  | .dict _, _, h => by cases h
theorem Reps.ban (hb : ∀ b, B' b → B b ∨ H b = Option.none) : ∀ {ds : List D} {vs : List V}, Reps K B H vs ds → Reps K B' H vs ds
  | [], _, h => by cases h; exact .nil
  | d :: ds, _, h => by
    cases h with
    | cons a b => exact .cons (Rep.ban hb a) (Reps.ban hb b)
end
theorem Reps.length : ∀ {ds : List D} {vs : List V}, Reps K B H vs ds → vs.length = ds.length
  | [], _, h => by cases h; rfl
  | d :: ds, _, h => by
    cases h with
    | cons a b => simp [Reps.length b]
theorem Reps.get : ∀ {ds : List D} {vs : List V} {i : Nat} {d : D}, Reps K B H vs ds → ds[i]? = some d → ∃ v, vs[i]? = some v ∧ Rep K B H v d
  | [], _, _, _, h, e => by simp at e
  | x :: ds, _, 0, d, h, e => by
    cases h with
    | cons a b => simp at e; subst e; exact ⟨_, rfl, a⟩
  | x :: ds, _, i + 1, d, h, e => by
    cases h with
    | cons a b =>
      obtain ⟨v, h1, h2⟩ := Reps.get (i := i) b (by simpa using e)
      exact ⟨v, by simpa using h1, h2⟩
theorem Reps.append : ∀ {ds es : List D} {vs ws : List V}, Reps K B H vs ds → Reps K B H ws es → Reps K B H (vs ++ ws) (ds ++ es)
  | [], _, _, _, h, q => by cases h; exact q
  | x :: ds, _, _, _, h, q => by
    cases h with
    | cons a b => exact .cons a (Reps.append b q)
theorem Reps.take : ∀ {ds : List D} {vs : List V} (n : Nat), Reps K B H vs ds → Reps K B H (vs.take n) (ds.take n)
  | _, _, 0, _ => .nil
  | [], _, _ + 1, h => by cases h; exact .nil
  | x :: ds, _, n + 1, h => by
    cases h with
    | cons a b => exact .cons a (Reps.take n b)
theorem Reps.drop : ∀ {ds : List D} {vs : List V} (n : Nat), Reps K B H vs ds → Reps K B H (vs.drop n) (ds.drop n)
  | _, _, 0, h => h
  | [], _, _ + 1, h => by cases h; exact .nil
  | x :: ds, _, n + 1, h => by
    cases h with
    | cons a b => exact Reps.drop n b
theorem Reps.set : ∀ {ds : List D} {vs : List V} {v : V} {d : D} (i : Nat), Rep K B H v d → Reps K B H vs ds → Reps K B H (vs.set i v) (ds.set i d)
  | [], _, _, _, _, _, h => by cases h; exact .nil
  | x :: ds, _, _, _, 0, r, h => by
    cases h with
    | cons a b => exact .cons r b
  | x :: ds, _, _, _, i + 1, r, h => by
    cases h with
    | cons a b => exact .cons a (Reps.set i r b)
theorem Reps.rep {ds : List D} {vs : List V} (h : Reps K B H vs ds) : ∀ n : Nat, Reps K B H (List.replicate n vs).flatten (List.replicate n ds).flatten
  | 0 => .nil
  | n + 1 => by
    rw [List.replicate_succ, List.replicate_succ, List.flatten_cons, List.flatten_cons]
    exact h.append (h.rep n)
mutual
theorem Rep.dp : ∀ {d : D} {v : V}, Rep K B H v d → Dp K H v d
  | .none, _, h => by cases h; exact .non
  | .bool b, _, h => by cases h; exact .bl b
  | .int i, _, h => by cases h; exact .int i
  | .str x, _, h => by cases h; exact .str x
  | .tuple ds, _, h => by
    cases h with
    | tup a c => exact .tup a.sq (Reps.dp c)
  | .list ds, _, h => by
    cases h with
    | lst a b c => exact .lst (.inl a) (Reps.dp c)
  | .dict _, _, h => by cases h
theorem Reps.dp : ∀ {ds : List D} {vs : List V}, Reps K B H vs ds → DpAll K H vs ds
  | [], _, h => by cases h; exact .nil
  | d :: ds, _, h => by
    cases h with
    | cons a b => exact .cons (Rep.dp a) (Reps.dp b)
end
end
/-- a list of the module -/
def KL (K : PySem.W.Frag) (a : Addr) (xs : List V) : Prop := ∃ (o : Obj) (its : Array Value) (n : Nat), K.lookup a = some o ∧ o.cls = .type "list" ∧ o.dict = none ∧ o.data = .seq its n ∧ its.size ≤ sizeLine ∧ Vals xs its.toList
abbrev Drs := Option (Addr × Addr)
/-- one of the draws' objects -/
def Has (dr : Drs) (b : Addr) : Prop := ∃ a l, dr = some (a, l) ∧ (b = a ∨ b = l)
theorem has_none {b : Addr} : ¬ Has none b := fun ⟨_, _, h, _⟩ => nomatch h
/-- as Rep, the outermost list may be one that is owned -/
def RepB (K : PySem.W.Frag) (dr : Drs) (B : Addr → Prop) (H : Hp) (v : V) (d : D) : Prop := Rep K B H v d ∨ ∃ a vs ds, v = .ref a ∧ d = .list ds ∧ (H a = some (.lst vs) ∧ ¬ Has dr a) ∧ Reps K B H vs ds
section
variable {K : PySem.W.Frag} {dr : Drs} {B : Addr → Prop} {H : Hp} {v : V} {d : D} {ds : List D}
theorem RepB.dp (h : RepB K dr B H v d) : Dp K H v d := by
  rcases h with h | ⟨a, vs, ds, rfl, rfl, e, r⟩
  · exact h.dp
  · exact .lst (.inl (.inl e.1)) r.dp
theorem RepB.b (h : RepB K dr B H v d) : RepB K none B H v d := h.imp id fun ⟨a, vs, ds, e1, e2, e3, r⟩ => ⟨a, vs, ds, e1, e2, ⟨e3.1, has_none⟩, r⟩
theorem RepB.list (h : RepB K dr B H v (.list ds)) : ∃ a vs, v = .ref a ∧ Rd H a (.lst vs) ∧ Reps K B H vs ds := by
  rcases h with h | ⟨a, vs, ds', rfl, e, h, r⟩
  · cases h with
    | lst a b c => exact ⟨_, _, rfl, a, c⟩
  · cases e; exact ⟨a, vs, rfl, .inl h.1, r⟩
theorem RepB.tuple (h : RepB K dr B H v (.tuple ds)) : ∃ a vs, v = .ref a ∧ TpS K B H a vs ∧ Reps K B H vs ds := by
  rcases h with h | ⟨a, vs, ds', rfl, e, h, r⟩
  · cases h with
    | tup a c => exact ⟨_, _, rfl, a, c⟩
  · cases e
theorem Rep.tuple (h : Rep K B H v (.tuple ds)) : ∃ a vs, v = .ref a ∧ TpS K B H a vs ∧ Reps K B H vs ds := RepB.tuple (dr := none) (.inl h)
theorem RepB.int {i : Int} (h : RepB K dr B H v (.int i)) : v = .int i := by
  rcases h with h | ⟨a, vs, ds', rfl, e, h, r⟩
  · cases h; rfl
  · cases e
theorem RepB.str {i : Str} (h : RepB K dr B H v (.str i)) : v = .str i := by
  rcases h with h | ⟨a, vs, ds', rfl, e, h, r⟩
  · cases h; rfl
  · cases e
theorem RepB.bool {i : Bool} (h : RepB K dr B H v (.bool i)) : v = .bl i := by
  rcases h with h | ⟨a, vs, ds', rfl, e, h, r⟩
  · cases h; rfl
  · cases e
theorem RepB.non (h : RepB K dr B H v .none) : v = .non := by
  rcases h with h | ⟨a, vs, ds', rfl, e, h, r⟩
  · cases h; rfl
  · cases e
theorem RepB.nodict {kvs : List (D × D)} (h : RepB K dr B H v (.dict kvs)) : False := by
  rcases h with h | ⟨a, vs, ds', rfl, e, h, r⟩
  · cases h
  · cases e
end
/-! ### the draws' dict -/
/-- the heap grows; the draws may have turned -/
structure Grow (dr : Drs) (H H' : Hp) : Prop where
  keep : ∀ b o, H b = some o → ¬ Has dr b → H' b = some o
  draw : ∀ a l, dr = some (a, l) → DrAt H a l → DrAt H' a l
theorem Grow.refl (dr : Drs) (H : Hp) : Grow dr H H := ⟨fun _ _ h _ => h, fun _ _ _ h => h⟩
theorem Grow.trans {dr : Drs} {H H1 H2 : Hp} (a : Grow dr H H1) (b : Grow dr H1 H2) : Grow dr H H2 := ⟨fun c o h n => b.keep c o (a.keep c o h n) n, fun c l e h => b.draw c l e (a.draw c l e h)⟩
theorem Grow.same {dr : Drs} {H H' : Hp} (s : Same H H') : Grow dr H H' := ⟨fun b o h _ => s b o h, fun a l _ h => h.imp (s a) (s l)⟩
theorem same_upd {H : Hp} {p : Addr} {o : HO} (h : H p = none) : Same H (upd H p o) := fun b x e => by
  rw [upd_ne (ne_of_none e h)]; exact e
/-! ### slots -/
/-- what an object of a def's own holds: a list, a dict by ints and texts, a dict by tuples of these -/
inductive Ct where
  | l (xs : List D) | k (kvs : List (Key × D)) | t (kvs : List (List Key × D))
def HasCt (K : PySem.W.Frag) (B : Addr → Prop) (H : Hp) (a : Addr) : Ct → Prop
  | .l ds => ∃ vs, H a = some (.lst vs) ∧ Reps K B H vs ds
  | .k kvs => ∃ vs : List (Key × V), H a = some (.dK vs) ∧ Paired (fun (p : Key × V) (q : Key × D) => p.1 = q.1 ∧ Rep K B H p.2 q.2) vs kvs
  | .t kvs => ∃ vs : List (List Key × V), H a = some (.dT vs) ∧ Paired (fun (p : List Key × V) (q : List Key × D) => p.1 = q.1 ∧ Rep K B H p.2 q.2) vs kvs
/-- what an attribute of an object is: data, a list at a place; as it is read: data, a list -/
inductive Fv where
  | d (x : D) | a (r : Addr)
inductive Fc where
  | d (x : D) | l (xs : List D)
def FvOk (K : PySem.W.Frag) (B : Addr → Prop) (H : Hp) (v : V) : Fv → Prop
  | .d x => Rep K B H v x
  | .a r => v = .ref r
def FcOk (K : PySem.W.Frag) (G B : Addr → Prop) (H : Hp) (v : V) : Fc → Prop
  | .d x => Rep K B H v x
  | .l xs => ∃ r vs, v = .ref r ∧ G r ∧ H r = some (.lst vs) ∧ Reps K B H vs xs
/-- an object as it is read; G: where its lists may stand -/
def ObOk (K : PySem.W.Frag) (G B : Addr → Prop) (H : Hp) (e C : Addr) (fs : List (Str × Fc)) : Prop := ∃ dx vs, H e = some (.ins C dx vs) ∧ Paired (fun (p : Str × V) (q : Str × Fc) => p.1 = q.1 ∧ FcOk K G B H p.2 q.2) vs fs
inductive Sl where
  | no | d (x : D) | l (xs : List D) | k (kvs : List (Key × D)) | kt (kvs : List (List Key × D)) | w | s (xs : List D) | b (c : Ct) | e (a : Addr) (d : Option (Addr × Str × D)) | f (kvs : List (Key × D))
  | o (C : Addr) (fs : List (Str × Fv)) | v (r : Addr) (xs : List D) | bo (C : Addr) (fs : List (Str × Fc))
def Sl.own : Sl → Bool
  | .l _ => true
  | .k _ => true
  | .kt _ => true
  | .o _ _ => true
  | .v _ _ => true
  | _ => false
def Own (ρ : List Sl) (i : Nat) : Prop := ∃ s, ρ[i]? = some s ∧ s.own = true
def OwnA (ρ : List Sl) (ad : Nat → Addr) (b : Addr) : Prop := ∃ i, Own ρ i ∧ ad i = b
def Ban (F : Addr → Prop) (ρ : List Sl) (ad : Nat → Addr) (b : Addr) : Prop := F b ∨ OwnA ρ ad b
def SlOk (K : PySem.W.Frag) (dr : Drs) (F B : Addr → Prop) (H : Hp) (x : Option (Option V)) (a : Addr) : Sl → Prop
  | .no => True
  | .d d => ∃ v, x = some (some v) ∧ Rep K B H v d
  | .l ds => x = some (some (.ref a)) ∧ ∃ vs, H a = some (.lst vs) ∧ Reps K B H vs ds
  | .k kvs => x = some (some (.ref a)) ∧ ∃ vs : List (Key × V), H a = some (.dK vs) ∧ Paired (fun (p : Key × V) (q : Key × D) => p.1 = q.1 ∧ Rep K B H p.2 q.2) vs kvs
  | .kt kvs => x = some (some (.ref a)) ∧ ∃ vs : List (List Key × V), H a = some (.dT vs) ∧ Paired (fun (p : List Key × V) (q : List Key × D) => p.1 = q.1 ∧ Rep K B H p.2 q.2) vs kvs
  | .w => ∃ b l, dr = some (b, l) ∧ x = some (some (.ref b))
  | .s ds => ∃ a vs, x = some (some (.ref a)) ∧ ((Rd H a (.lst vs) ∧ ¬ B a) ∨ KL K a vs) ∧ Reps K B H vs ds
  | .b c => ∃ e, x = some (some (.ref e)) ∧ F e ∧ ¬ Has dr e ∧ HasCt K B H e c
  | .e a' d => x = some (some (.ref a')) ∧ ∀ dd f y, d = some (dd, f, y) → F dd ∧ ¬ Has dr dd ∧ ∃ v, H dd = some (.xd [(f, v)]) ∧ Rep K B H v y
  | .f kvs => ∃ e o, ∃ vs : List (Key × V), x = some (some (.ref e)) ∧ F e ∧ ¬ Has dr e ∧ H e = some (.frz o (.dK vs)) ∧ Paired (fun (p : Key × V) (q : Key × D) => p.1 = q.1 ∧ Rep K B H p.2 q.2) vs kvs
  | .o C fs => x = some (some (.ref a)) ∧ ∃ dx vs, H a = some (.ins C dx vs) ∧ Paired (fun (p : Str × V) (q : Str × Fv) => p.1 = q.1 ∧ FvOk K B H p.2 q.2) vs fs
  | .v r xs => x = some (some (.ref a)) ∧ a = r ∧ ∃ vs, H r = some (.lst vs) ∧ Reps K B H vs xs
  | .bo C fs => ∃ e, x = some (some (.ref e)) ∧ F e ∧ ¬ Has dr e ∧ ObOk K (fun r => F r ∧ ¬ Has dr r) B H e C fs
structure StOk (K : PySem.W.Frag) (dr : Drs) (F : Addr → Prop) (ρ : List Sl) (σ : L2.St) (H : Hp) (ad : Nat → Addr) : Prop where
  len : σ.length = ρ.length
  inj : ∀ i j, Own ρ i → Own ρ j → ad i = ad j → i = j
  nf : ∀ i, Own ρ i → ¬ F (ad i)
  fa : ∀ b, F b → Bd H b
  dk : ∀ a l, dr = some (a, l) → F a ∧ F l ∧ l ≠ a ∧ DrAt H a l
  tb : TbOk K H
  sl : ∀ (i : Nat) (s : Sl), ρ[i]? = some s → SlOk K dr F (Ban F ρ ad) H σ[i]? (ad i) s
theorem paired_mono {α β : Type} {F G : α → β → Prop} (h : ∀ a b, F a b → G a b) : ∀ {l₁ : List α} {l₂ : List β}, Paired F l₁ l₂ → Paired G l₁ l₂
  | _, _, .nil => .nil
  | _, _, .cons r t => .cons (h _ _ r) (paired_mono h t)
section
variable {K : PySem.W.Frag} {dr : Drs} {F : Addr → Prop} {ρ ρ' : List Sl} {σ σ' : L2.St} {H H' : Hp} {ad ad' : Nat → Addr}
theorem HasCt.mono {B B' : Addr → Prop} {H H' : Hp} {a : Addr} {c : Ct} (h : HasCt K B H a c) (hr : ∀ v d, Rep K B H v d → Rep K B' H' v d) (hrs : ∀ vs ds, Reps K B H vs ds → Reps K B' H' vs ds) (ho : ∀ o, H a = some o → H' a = some o) : HasCt K B' H' a c := by
  cases c with
  | l xs => obtain ⟨vs, e2, r⟩ := h; exact ⟨vs, ho _ e2, hrs _ _ r⟩
  | k kvs => obtain ⟨vs, e2, r⟩ := h; exact ⟨vs, ho _ e2, paired_mono (fun _ _ z => ⟨z.1, hr _ _ z.2⟩) r⟩
  | t kvs => obtain ⟨vs, e2, r⟩ := h; exact ⟨vs, ho _ e2, paired_mono (fun _ _ z => ⟨z.1, hr _ _ z.2⟩) r⟩
theorem HasCt.some {B : Addr → Prop} {H : Hp} {a : Addr} {c : Ct} (h : HasCt K B H a c) : ∃ o, H a = some o := by
  cases c with
  | l xs => obtain ⟨vs, e2, r⟩ := h; exact ⟨_, e2⟩
  | k kvs => obtain ⟨vs, e2, r⟩ := h; exact ⟨_, e2⟩
  | t kvs => obtain ⟨vs, e2, r⟩ := h; exact ⟨_, e2⟩
theorem FvOk.mono {B B' : Addr → Prop} {H H' : Hp} {v : V} {f : Fv} (h : FvOk K B H v f) (hr : ∀ v d, Rep K B H v d → Rep K B' H' v d) : FvOk K B' H' v f := by
  cases f with
  | d x => exact hr _ _ h
  | a r => exact h
theorem FcOk.mono {G G' B B' : Addr → Prop} {H H' : Hp} {v : V} {f : Fc} (h : FcOk K G B H v f) (hr : ∀ v d, Rep K B H v d → Rep K B' H' v d) (hrs : ∀ vs ds, Reps K B H vs ds → Reps K B' H' vs ds) (hG : ∀ r, G r → G' r) (hf : ∀ r vs, G r → H r = some (.lst vs) → H' r = some (.lst vs)) : FcOk K G' B' H' v f := by
  cases f with
  | d x => exact hr _ _ h
  | l xs => obtain ⟨r, vs, e, g, e2, rr⟩ := h; exact ⟨r, vs, e, hG _ g, hf _ _ g e2, hrs _ _ rr⟩
theorem ObOk.mono {G G' B B' : Addr → Prop} {H H' : Hp} {e C : Addr} {fs : List (Str × Fc)} (h : ObOk K G B H e C fs) (hr : ∀ v d, Rep K B H v d → Rep K B' H' v d) (hrs : ∀ vs ds, Reps K B H vs ds → Reps K B' H' vs ds) (hG : ∀ r, G r → G' r) (hf : ∀ r vs, G r → H r = some (.lst vs) → H' r = some (.lst vs)) (he : ∀ o, H e = some o → H' e = some o) : ObOk K G' B' H' e C fs := by
  obtain ⟨dx, vs, e1, p⟩ := h
  exact ⟨dx, vs, he _ e1, paired_mono (fun _ _ z => ⟨z.1, z.2.mono hr hrs hG hf⟩) p⟩
theorem SlOk.mono {F F' B B' : Addr → Prop} {x : Option (Option V)} {a : Addr} {s : Sl} (h : SlOk K dr F B H x a s) (hr : ∀ v d, Rep K B H v d → Rep K B' H' v d) (hrs : ∀ vs ds, Reps K B H vs ds → Reps K B' H' vs ds) (ho : s.own = true → ∀ o, H a = some o → H' a = some o)
    (hF : ∀ e, F e → F' e := by exact fun _ z => z) (hf : ∀ e o, F e → ¬ Has dr e → H e = some o → H' e = some o := by exact fun _ _ _ _ z => z) : SlOk K dr F' B' H' x a s := by
  cases s with
  | no => trivial
  | d x => obtain ⟨v, e, r⟩ := h; exact ⟨v, e, hr _ _ r⟩
  | l xs => obtain ⟨e, vs, e2, r⟩ := h; exact ⟨e, vs, ho rfl _ e2, hrs _ _ r⟩
  | k kvs => obtain ⟨e, vs, e2, r⟩ := h; exact ⟨e, vs, ho rfl _ e2, paired_mono (fun _ _ z => ⟨z.1, hr _ _ z.2⟩) r⟩
  | kt kvs => obtain ⟨e, vs, e2, r⟩ := h; exact ⟨e, vs, ho rfl _ e2, paired_mono (fun _ _ z => ⟨z.1, hr _ _ z.2⟩) r⟩
  | w => exact h
  | s xs =>
    obtain ⟨a, vs, e, ⟨r1, r2⟩ | r, rs⟩ := h
    · have z := hr _ _ (Rep.lst r1 r2 rs)
      cases z with
      | lst b1 b2 b3 => exact ⟨a, _, e, .inl ⟨b1, b2⟩, b3⟩
    · exact ⟨a, vs, e, .inr r, hrs _ _ rs⟩
  | b c =>
    obtain ⟨e, h1, h2, h3, h4⟩ := h
    exact ⟨e, h1, hF _ h2, h3, h4.mono hr hrs fun o => hf e o h2 h3⟩
  | e a' d =>
    refine ⟨h.1, fun dd f y e => ?_⟩
    obtain ⟨h1, h2, v, h3, h4⟩ := h.2 dd f y e
    exact ⟨hF _ h1, h2, v, hf _ _ h1 h2 h3, hr _ _ h4⟩
  | f kvs =>
    obtain ⟨e, o, vs, h1, h2, h3, h4, h5⟩ := h
    exact ⟨e, o, vs, h1, hF _ h2, h3, hf _ _ h2 h3 h4, paired_mono (fun _ _ z => ⟨z.1, hr _ _ z.2⟩) h5⟩
  | o C fs =>
    obtain ⟨e, dx, vs, e2, p⟩ := h
    exact ⟨e, dx, vs, ho rfl _ e2, paired_mono (fun _ _ z => ⟨z.1, z.2.mono hr⟩) p⟩
  | v r xs =>
    obtain ⟨e, rfl, vs, e2, rr⟩ := h
    exact ⟨e, rfl, vs, ho rfl _ e2, hrs _ _ rr⟩
  | bo C fs =>
    obtain ⟨e, h1, h2, h3, h4⟩ := h
    exact ⟨e, h1, hF _ h2, h3, h4.mono hr hrs (fun r z => ⟨hF _ z.1, z.2⟩) (fun r vs z q => hf _ _ z.1 z.2 q) fun o q => hf _ _ h2 h3 q⟩
theorem SlOk.at (h : StOk K dr F ρ σ H ad) {i : Nat} {d : D} (e : ρ[i]? = some (.d d)) : ∃ v, σ[i]? = some (some v) ∧ Rep K (Ban F ρ ad) H v d := h.sl i _ e
/-- the owned stand there -/
theorem StOk.there (h : StOk K dr F ρ σ H ad) {i : Nat} (o : Own ρ i) : Bd H (ad i) := by
  obtain ⟨s, e, q⟩ := o
  have z := h.sl i s e
  cases s with
  | no => cases q
  | d x => cases q
  | l xs => obtain ⟨_, vs, e2, _⟩ := z; exact ⟨_, e2, fun _ z => nomatch z⟩
  | k xs => obtain ⟨_, vs, e2, _⟩ := z; exact ⟨_, e2, fun _ z => nomatch z⟩
  | kt xs => obtain ⟨_, vs, e2, _⟩ := z; exact ⟨_, e2, fun _ z => nomatch z⟩
  | w => cases q
  | s xs => cases q
  | b c => cases q
  | e a' d => cases q
  | f kvs => cases q
  | o C fs => obtain ⟨_, dx, vs, e2, _⟩ := z; exact ⟨_, e2, fun _ z => nomatch z⟩
  | v r xs => obtain ⟨_, er, vs, e2, _⟩ := z; rw [er]; exact ⟨_, e2, fun _ z => nomatch z⟩
  | bo C fs => cases q
theorem StOk.ownT (h : StOk K dr F ρ σ H ad) {i : Nat} (o : Own ρ i) {P : Addr} (e : H (ad i) = some (TabF P)) : False := by
  obtain ⟨s, e1, q⟩ := o
  have z := h.sl i s e1
  cases s with
  | no => cases q
  | d x => cases q
  | l xs => obtain ⟨_, vs, e2, _⟩ := z; rw [e] at e2; cases e2
  | k xs => obtain ⟨_, vs, e2, _⟩ := z; rw [e] at e2; cases e2
  | kt xs => obtain ⟨_, vs, e2, _⟩ := z; rw [e] at e2; cases e2
  | w => cases q
  | s xs => cases q
  | b c => cases q
  | e a' d => cases q
  | f kvs => cases q
  | o C fs => obtain ⟨_, dx, vs, e2, _⟩ := z; rw [e] at e2; cases e2
  | v r xs => obtain ⟨_, er, vs, e2, _⟩ := z; rw [er] at e; rw [e] at e2; cases e2
  | bo C fs => cases q
theorem StOk.tbU (h : StOk K dr F ρ σ H ad) {i : Nat} (o : Own ρ i) (u : HO) : TbOk K (upd H (ad i) u) := fun P k => by
  rw [upd_ne fun z => h.ownT o (by rw [← z]; exact h.tb P k)]
  exact h.tb P k
theorem StOk.banned (h : StOk K dr F ρ σ H ad) {b : Addr} (q : Ban F ρ ad b) : Bd H b := by
  rcases q with q | ⟨i, o, rfl⟩
  · exact h.fa b q
  · exact h.there o
/-- what stands at foreign places; the tables -/
structure Fo (K : PySem.W.Frag) (H : Hp) (B : Addr → Prop) : Prop where
  b : ∀ b, B b → Bd H b
  t : TbOk K H
theorem StOk.fo (h : StOk K dr F ρ σ H ad) : Fo K H (Ban F ρ ad) := ⟨fun _ z => h.banned z, h.tb⟩
theorem StOk.fof (h : StOk K dr F ρ σ H ad) : Fo K H F := ⟨h.fa, h.tb⟩
theorem StOk.dF (h : StOk K dr F ρ σ H ad) {b : Addr} (e : Has dr b) : F b := by
  obtain ⟨a, l, e, z⟩ := e
  obtain ⟨f1, f2, _⟩ := h.dk a l e
  rcases z with rfl | rfl
  · exact f1
  · exact f2
theorem StOk.drF (h : StOk K dr F ρ σ H ad) {a : Addr} (e : Has dr a) : Ban F ρ ad a := .inl (h.dF e)
theorem StOk.drB (h : StOk K dr F ρ σ H ad) (g : Grow dr H H') {b : Addr} (e : Has dr b) : Bd H' b := by
  obtain ⟨a, l, e, z⟩ := e
  obtain ⟨_, _, _, q⟩ := h.dk a l e
  have q := g.draw a l e q
  rcases z with rfl | rfl
  · exact q.bd
  · exact q.bdl
theorem StOk.stays (h : StOk K dr F ρ σ H ad) (g : Grow dr H H') : Stay (Ban F ρ ad) H H' := fun b o e nb => g.keep b o e fun z => nb (h.drF z)
theorem StOk.grow (h : StOk K dr F ρ σ H ad) (g : Grow dr H H') : StOk K dr F ρ σ H' ad := by
  refine ⟨h.len, h.inj, h.nf, fun b q => ?_, fun a l e => ?_, fun P k => g.keep _ _ (h.tb P k) fun ⟨a, l, e, z⟩ => (h.dk a l e).2.2.2.noT z (h.tb P k), fun i s e => ?_⟩
  · obtain ⟨o, e, nt⟩ := h.fa b q
    by_cases z : Has dr b
    · exact h.drB g z
    · exact ⟨o, g.keep b o e z, nt⟩
  · obtain ⟨f, fl, ne, q⟩ := h.dk a l e
    exact ⟨f, fl, ne, g.draw a l e q⟩
  · have st := h.stays g
    refine (h.sl i s e).mono (fun v d r => r.stay st) (fun vs ds r => r.stay st) (fun hs o ho => g.keep _ o ho fun z => ?_) (fun _ z => z) (fun e o _ n eo => g.keep e o eo n)
    exact h.nf i ⟨s, e, hs⟩ (h.dF z)
theorem free_grow (h : StOk K dr F ρ σ H ad) (g : Grow dr H H') {p : Addr} (e : H' p = none) : H p = none := by
  cases q : H p with
  | none => rfl
  | some o =>
    by_cases z : Has dr p
    · obtain ⟨o', e', _⟩ := h.drB g z
      rw [e] at e'; cases e'
    · rw [g.keep p o q z] at e; cases e
/-- less is told -/
def Le (ρ' ρ : List Sl) : Prop := ρ'.length = ρ.length ∧ ∀ (i : Nat) (s : Sl), ρ'[i]? = some s → s = Sl.no ∨ ρ[i]? = some s ∨ ∃ xs, s = Sl.d (.list xs) ∧ ρ[i]? = some (Sl.l xs)
theorem Le.refl (ρ : List Sl) : Le ρ ρ := ⟨rfl, fun _ _ e => .inr (.inl e)⟩
theorem le_nil : Le [] [] := ⟨rfl, fun _ _ e => by simp at e⟩
theorem le_eq {s : Sl} (h : Le ρ' ρ) : Le (s :: ρ') (s :: ρ) := ⟨by simp [h.1], fun i t e => by
  cases i with
  | zero => exact .inr (.inl e)
  | succ i => exact h.2 i t (by simpa using e)⟩
theorem le_no {s : Sl} (h : Le ρ' ρ) : Le (.no :: ρ') (s :: ρ) := ⟨by simp [h.1], fun i t e => by
  cases i with
  | zero => simp at e; exact .inl e.symm
  | succ i => exact h.2 i t (by simpa using e)⟩
theorem le_fz {xs : List D} (h : Le ρ' ρ) : Le (.d (.list xs) :: ρ') (.l xs :: ρ) := ⟨by simp [h.1], fun i t e => by
  cases i with
  | zero => simp at e; exact .inr (.inr ⟨xs, e.symm, rfl⟩)
  | succ i => exact h.2 i t (by simpa using e)⟩
theorem Le.own (l : Le ρ' ρ) {i : Nat} (o : Own ρ' i) : Own ρ i := by
  obtain ⟨s, e, q⟩ := o
  rcases l.2 i s e with rfl | z | ⟨xs, rfl, _⟩
  · cases q
  · exact ⟨s, z, q⟩
  · cases q
theorem Le.ban (l : Le ρ' ρ) {b : Addr} (o : Ban F ρ' ad b) : Ban F ρ ad b := by
  rcases o with o | ⟨i, o, e⟩
  · exact .inl o
  · exact .inr ⟨i, l.own o, e⟩
theorem StOk.le (h : StOk K dr F ρ σ H ad) (l : Le ρ' ρ) : StOk K dr F ρ' σ H ad := by
  refine ⟨h.len.trans l.1.symm, fun i j a b => h.inj i j (l.own a) (l.own b), fun i a => h.nf i (l.own a), h.fa, h.dk, h.tb, fun i s e => ?_⟩
  rcases l.2 i s e with rfl | z | ⟨xs, rfl, z⟩
  · trivial
  · exact (h.sl i s z).mono (fun v d r => r.weak fun b => l.ban) (fun v d r => r.weak fun b => l.ban) fun _ _ q => q
  · obtain ⟨e1, vs, e2, r⟩ := h.sl i _ z
    refine ⟨.ref (ad i), e1, .lst (.inl e2) (fun q => ?_) (r.weak fun b => l.ban)⟩
    rcases q with q | ⟨j, o, ej⟩
    · exact h.nf i ⟨_, z, rfl⟩ q
    · have ij : j = i := h.inj j i (l.own o) ⟨_, z, rfl⟩ ej
      subst ij
      obtain ⟨s', e', q'⟩ := o
      rw [e] at e'
      cases e'
      cases q'
end
end Pu
/-! Pe: expressions that compute results. -/
namespace Pu
open PySem PySem.Spec PyProof.Rows L2 R
/-- what is fixed in a def: the draws' place, the wish for errors, the errors' classes, the slots that keep their places -/
structure Wd where
  dr : Drs
  W : XK
  xc : Nat → Value × Option Str
  pin : Nat → Bool
  own : Bool
  cm : Bool
/-- no exception is being handled -/
class Calm (wd : Wd) : Prop where
  h : wd.cm = true
def XRep (wd : Wd) (K : PySem.W.Frag) (B : Addr → Prop) (H : Hp) (c : Nat) (x : D) (C : Value) (dx : Option Addr) : Prop :=
  C = (wd.xc c).1 ∧ match (wd.xc c).2 with
  | none => dx = none
  | some f => ∃ d v, dx = some d ∧ H d = some (.xd [(f, v)]) ∧ Rep K B H v x
/-! ### the readings as the code itself -/
section
variable (X : Cx)
def BE (e : Expr) : TE := fun σ H Q => ∀ (pins : List (Addr × Obj)) (s : Shared), Inv X pins σ H s → wpAny (model X.prog X.w) X.A (eval e X.env) (EP X pins σ Q) X.xe s
def BT (e : Expr) : TT := fun σ H Q => ∀ (pins : List (Addr × Obj)) (s : Shared), Inv X pins σ H s → wpAny (model X.prog X.w) X.A (isTrue e X.env (eval e X.env)) (TP X pins σ Q) X.xe s
def BW (e : Expr) : TT := fun σ H Q => ∀ (whole : Sem Value) (pins : List (Addr × Obj)) (s : Shared), Inv X pins σ H s → wpAny (model X.prog X.w) X.A (isTrue e X.env whole) (TP X pins σ Q) X.xe s
def BA (es : List Expr) : TA := fun σ H Q => ∀ (pos : Pos) (pins : List (Addr × Obj)) (s : Shared), Inv X pins σ H s → wpAny (model X.prog X.w) X.A (spliced (backTo pos (starEach es X.env))) (AP X pins σ Q) X.xe s
def BI (tg iter : Expr) : TI := fun σ H R => ∀ (pins : List (Addr × Obj)) (s : Shared), Inv X pins σ H s →
    wpAny (model X.prog X.w) X.A (eval iter X.env) (fun v s1 => wpAny (model X.prog X.w) X.A (pyIter v) (PIE X pins σ tg R) X.xe s1) X.xe s
def BS (st : Stmt) : TS := fun D σ H => ∀ (pins : List (Addr × Obj)) (s : Shared), Inv X pins σ H s → wpAny (model X.prog X.w) X.A (exec st X.env) (SP X pins D) X.xe s
def BSs (sts : List Stmt) : TS := fun D σ H => ∀ (pins : List (Addr × Obj)) (s : Shared), Inv X pins σ H s → wpAny (model X.prog X.w) X.A (execs sts X.env) (SP X pins D) X.xe s
end
section
variable {X : Cx} {e : Expr} {es : List Expr} {tg : Expr} {st : Stmt} {sts : List Stmt} {σ : L2.St} {H : Hp}
theorem pe_b : PE X e (BE X e) := ⟨fun pins s _ _ _ I h => h pins s I⟩
theorem pt_b : PT X e (BT X e) := ⟨fun pins s _ _ _ I h => h pins s I⟩
theorem pw_b : PW X e (BW X e) := ⟨fun wh pins s _ _ _ I h => h wh pins s I⟩
theorem pa_b : PA X es (BA X es) := ⟨fun pos pins s _ _ _ I h => h pos pins s I⟩
theorem pi_b : PI X tg e (BI X tg e) := ⟨fun pins s _ _ _ I h => h pins s I⟩
theorem ps_b : PS X st (BS X st) := ⟨fun pins s _ _ _ I h => h pins s I⟩
theorem pss_b : PSs X sts (BSs X sts) := ⟨fun pins s _ _ _ I h => h pins s I⟩
theorem be {t : TE} {Q : VK} (h : PE X e t) (q : t σ H Q) : BE X e σ H Q := fun pins s I => h.run pins s σ H Q I q
theorem bt {t : TT} {Q : Bool → Hp → Prop} (h : PT X e t) (q : t σ H Q) : BT X e σ H Q := fun pins s I => h.run pins s σ H Q I q
theorem bw {t : TT} {Q : Bool → Hp → Prop} (h : PW X e t) (q : t σ H Q) : BW X e σ H Q := fun wh pins s I => h.run wh pins s σ H Q I q
theorem ba {t : TA} {Q : List V → Hp → Prop} (h : PA X es t) (q : t σ H Q) : BA X es σ H Q := fun pos pins s I => h.run pos pins s σ H Q I q
theorem bi {t : TI} {R : It → Hp → Prop} (h : PI X tg e t) (q : t σ H R) : BI X tg e σ H R := fun pins s I => h.run pins s σ H R I q
theorem bs {t : TS} {Dn : Ends} (h : PS X st t) (q : t Dn σ H) : BS X st Dn σ H := fun pins s I => h.run pins s σ H Dn I q
theorem bss {t : TS} {Dn : Ends} (h : PSs X sts t) (q : t Dn σ H) : BSs X sts Dn σ H := fun pins s I => h.run pins s σ H Dn I q
end
/-! ### judgements -/
section
variable (X : Cx) (wd : Wd)
/-- what is wanted of an error -/
def XP (F : Addr → Prop) (ρ : List Sl) (ad : Nat → Addr) (H : Hp) (c : Nat) (x : D) : Prop := ∀ C dx H', Grow wd.dr H H' → XRep wd X.K (Ban F ρ ad) H' c x C dx → wd.W C dx H'
/-- e is d, nothing of it is owned -/
def Ev (ρ : List Sl) (e : Expr) (r : R D) : Prop := ∀ (F : Addr → Prop) (ad : Nat → Addr) (σ : L2.St) (H : Hp) (Q : VK), StOk X.K wd.dr F ρ σ H ad →
  r.wp (fun d => ∀ v H', Grow wd.dr H H' → Rep X.K (Ban F ρ ad) H' v d → Q v H') (XP X wd F ρ ad H) → BE X e σ H Q
/-- e is d, only to be looked at -/
def EvB (ρ : List Sl) (e : Expr) (r : R D) : Prop := ∀ (F : Addr → Prop) (ad : Nat → Addr) (σ : L2.St) (H : Hp) (Q : VK), StOk X.K wd.dr F ρ σ H ad →
  r.wp (fun d => ∀ v H', Grow wd.dr H H' → RepB X.K wd.dr (Ban F ρ ad) H' v d → Q v H') (XP X wd F ρ ad H) → BE X e σ H Q
/-- e is a new list, nobody else has it -/
def EvL (ρ : List Sl) (e : Expr) (r : R (List D)) : Prop := ∀ (F : Addr → Prop) (ad : Nat → Addr) (σ : L2.St) (H : Hp) (Q : VK), StOk X.K wd.dr F ρ σ H ad →
  r.wp (fun ds => ∀ a vs H', Grow wd.dr H H' → H a = none → H' a = some (.lst vs) → Reps X.K (fun b => Ban F ρ ad b ∨ b = a) H' vs ds → Q (.ref a) H') (XP X wd F ρ ad H) → BE X e σ H Q
/-- a test -/
def EvT (ρ : List Sl) (e : Expr) (r : R Bool) : Prop := ∀ (F : Addr → Prop) (ad : Nat → Addr) (σ : L2.St) (H : Hp) (Q : Bool → Hp → Prop), StOk X.K wd.dr F ρ σ H ad →
  r.wp (fun b => ∀ H', Grow wd.dr H H' → Q b H') (XP X wd F ρ ad H) → BT X e σ H Q
def EvW (ρ : List Sl) (e : Expr) (r : R Bool) : Prop := ∀ (F : Addr → Prop) (ad : Nat → Addr) (σ : L2.St) (H : Hp) (Q : Bool → Hp → Prop), StOk X.K wd.dr F ρ σ H ad →
  r.wp (fun b => ∀ H', Grow wd.dr H H' → Q b H') (XP X wd F ρ ad H) → BW X e σ H Q
/-- arguments, the last first in ds' end -/
def EvA (ρ : List Sl) (es : List Expr) (r : R (List D)) : Prop := ∀ (F : Addr → Prop) (ad : Nat → Addr) (σ : L2.St) (H : Hp) (Q : List V → Hp → Prop), StOk X.K wd.dr F ρ σ H ad →
  r.wp (fun ds => ∀ vs H', Grow wd.dr H H' → Reps X.K (Ban F ρ ad) H' vs ds → Q vs H') (XP X wd F ρ ad H) → BA X es σ H Q
/-- a part of a slice -/
def EvO (ρ : List Sl) (e : Option Expr) (r : R (Option Int)) : Prop := ∀ (F : Addr → Prop) (ad : Nat → Addr) (σ : L2.St) (H : Hp), StOk X.K wd.dr F ρ σ H ad →
  ∃ t, PO X e t ∧ ∀ (Q : Option Int → Hp → Prop), r.wp (fun i => ∀ H', Grow wd.dr H H' → Q i H') (XP X wd F ρ ad H) → t σ H Q
end
/-! ### the context -/
def visB (sc : Scope) (x : Str) : Bool := (match sc.names.lookup x with | some .local => true | some .cell => true | some .free => true | _ => false) && !(x == ("__debug__" : Str)) && !(x == ("__classdict__" : Str))
def glB (sc : Scope) (x : Str) : Bool := decide (sc.names.lookup x = some .globalImplicit) && !(x == ("__debug__" : Str)) && !(x == ("__name__" : Str))
structure Cw (CX : CXT) (k : Nat) (wd : Wd) (N : List Str) (sc : Scope) (X : Cx) : Prop where
  hN : X.N = N
  hs : X.env.scope = sc
  nd : N.Nodup
  calm' : wd.cm = true → X.calm = true
  un : X.A.units + 190 < cLine
  room' : wd.cm = true → Room k X.A
  po : PassesOwn (model X.prog X.w) X.A X.env X.xe
  ps : Passes CX X wd.W
section
variable {CX : CXT} {k : Nat} {wd : Wd} {N : List Str} {sc : Scope} {X : Cx} {ρ : List Sl} {e a b : Expr} {pos : Pos}
theorem Cw.vis (c : Cw CX k wd N sc X) {x : Str} (h : visB sc x = true) : Vis X.env.scope x ∧ (x == ("__debug__" : Str)) = false ∧ (x == ("__classdict__" : Str)) = false := by
  unfold visB at h
  rw [Bool.and_eq_true, Bool.and_eq_true] at h
  obtain ⟨⟨h1, h2⟩, h3⟩ := h
  refine ⟨?_, by simpa using h2, by simpa using h3⟩
  rw [c.hs]
  unfold Vis
  split at h1 <;> first | exact .inl (by assumption) | exact .inr (.inl (by assumption)) | exact .inr (.inr (by assumption)) | cases h1
theorem Cw.gl (c : Cw CX k wd N sc X) {x : Str} (h : glB sc x = true) : Gl X x ∧ (x == ("__debug__" : Str)) = false ∧ x ≠ "__name__" := by
  unfold glB at h
  rw [Bool.and_eq_true, Bool.and_eq_true] at h
  obtain ⟨⟨h1, h2⟩, h3⟩ := h
  refine ⟨?_, by simpa using h2, by simpa using h3⟩
  unfold Gl
  show X.env.scope.names.lookup x = _
  rw [c.hs]
  exact of_decide_eq_true h1
theorem Cw.calm [q : Calm wd] (c : Cw CX k wd N sc X) : X.calm = true := c.calm' q.h
theorem Cw.room [q : Calm wd] (c : Cw CX k wd N sc X) : Room k X.A := c.room' q.h
theorem un_of {k : Nat} {A : Around} (r : Room k A) : A.units + 190 < cLine := by have := r.un; omega
theorem Cw.u1 (c : Cw CX k wd N sc X) : X.A.units + 1 < cLine := by have := c.un; omega
theorem Cw.u64 (c : Cw CX k wd N sc X) : X.A.units + 64 < cLine := by have := c.un; omega
/-! ### weakenings -/
theorem Ev.look {r : R D} (h : Ev X wd ρ e r) : EvB X wd ρ e r := fun F ad σ H Q s q => h F ad σ H Q s (wp_mono (fun d z v H' g r => z v H' g (.inl r)) (fun _ _ z => z) q)
theorem EvL.ev {r : R (List D)} (h : EvL X wd ρ e r) : Ev X wd ρ e (r.bind fun ds => ret (.list ds)) := fun F ad σ H Q s q => by
  refine h F ad σ H Q s ?_
  rw [wp_bind] at q
  refine wp_mono (fun ds z => ?_) (fun _ _ z => z) q
  intro a vs H' g n e r
  refine z _ _ g (.lst (.inl e) (fun bn => ?_) (r.weak fun b => .inl))
  obtain ⟨o, eo, _⟩ := s.banned bn
  rw [n] at eo; cases eo
theorem Ev.eq {r r' : R D} (h : Ev X wd ρ e r) (q : r = r') : Ev X wd ρ e r' := q ▸ h
theorem Ev.le {ρ' : List Sl} {r : R D} (h : Ev X wd ρ' e r) (l : Le ρ' ρ) (ho : ∀ i, Own ρ i → Own ρ' i) : Ev X wd ρ e r := fun F ad σ H Q s q => by
  have hb : ∀ b, Ban F ρ ad b → Ban F ρ' ad b := by
    rintro b (b | ⟨i, o, e⟩)
    · exact .inl b
    · exact .inr ⟨i, ho i o, e⟩
  refine h F ad σ H Q (s.le l) (wp_mono (fun d z v H' g r => z v H' g (r.weak hb)) (fun c x z C dx H' g r => z C dx H' g ?_) q)
  obtain ⟨r1, r2⟩ := r
  refine ⟨r1, ?_⟩
  cases e : (wd.xc c).2 with
  | none => rw [e] at r2; exact r2
  | some f =>
    rw [e] at r2
    obtain ⟨d, v, h1, h2, h3⟩ := r2
    exact ⟨d, v, h1, h2, h3.weak hb⟩
end
/-- two in a row: the wishes of the second behind the first -/
theorem XP.grow {X : Cx} {wd : Wd} {F : Addr → Prop} {ρ : List Sl} {ad : Nat → Addr} {H H' : Hp} {c : Nat} {x : D} (h : XP X wd F ρ ad H c x) (g : Grow wd.dr H H') : XP X wd F ρ ad H' c x :=
  fun C dx H2 g2 r => h C dx H2 (g.trans g2) r
theorem RepB.stay {K : PySem.W.Frag} {dr : Drs} {F : Addr → Prop} {ρ : List Sl} {σ : L2.St} {H H' : Hp} {ad : Nat → Addr} (s : StOk K dr F ρ σ H ad) (g : Grow dr H H') {v : V} {d : D} (h : RepB K dr (Ban F ρ ad) H v d) : RepB K dr (Ban F ρ ad) H' v d := by
  have st := s.stays g
  rcases h with h | ⟨a, vs, ds, rfl, rfl, e, r⟩
  · exact .inl (h.stay st)
  · exact .inr ⟨a, vs, ds, rfl, rfl, ⟨g.keep _ _ e.1 e.2, e.2⟩, r.stay st⟩
theorem RepB.listN {K : PySem.W.Frag} {dr : Drs} {F : Addr → Prop} {ρ : List Sl} {σ : L2.St} {H : Hp} {ad : Nat → Addr} (s : StOk K dr F ρ σ H ad) {v : V} {ds : List D} (h : RepB K dr (Ban F ρ ad) H v (.list ds)) : ∃ a vs, v = .ref a ∧ Rd H a (.lst vs) ∧ Reps K (Ban F ρ ad) H vs ds ∧ ¬ Has dr a := by
  rcases h with h | ⟨a, vs, ds', rfl, e, h, r⟩
  · cases h with
    | lst a b c => exact ⟨_, _, rfl, a, c, fun z => b (s.drF z)⟩
  · cases e; exact ⟨a, vs, rfl, .inl h.1, r, h.2⟩
section
variable {CX : CXT} {k : Nat} {wd : Wd} {N : List Str} {sc : Scope} {X : Cx} {ρ : List Sl} {e a b : Expr} {pos : Pos}
/-! ### names, constants -/
theorem ev_var (c : Cw CX k wd N sc X) {i : Nat} {x : Str} {d : D} (hv : visB sc x = true) (hN : N[i]? = some x) (hρ : ρ[i]? = some (.d d)) : Ev X wd ρ (.Name x pos) (ret d) := fun F ad σ H Q s q => by
  obtain ⟨v1, v2, v3⟩ := c.vis hv
  obtain ⟨v, e, r⟩ := SlOk.at s hρ
  exact be (pe_var (i := i) (by rw [c.hN]; exact hN) v1 v2 v3) ⟨v, e, q v H (Grow.refl _ _) r⟩
theorem evb_own (c : Cw CX k wd N sc X) {i : Nat} {x : Str} {ds : List D} (hv : visB sc x = true) (hN : N[i]? = some x) (hρ : ρ[i]? = some (.l ds)) : EvB X wd ρ (.Name x pos) (ret (.list ds)) := fun F ad σ H Q s q => by
  obtain ⟨v1, v2, v3⟩ := c.vis hv
  obtain ⟨e, vs, e2, r⟩ := s.sl i _ hρ
  exact be (pe_var (i := i) (by rw [c.hN]; exact hN) v1 v2 v3) ⟨_, e, q _ H (Grow.refl _ _) (.inr ⟨_, vs, ds, rfl, rfl, ⟨e2, fun z => s.nf i ⟨_, hρ, rfl⟩ (s.dF z)⟩, r⟩)⟩
theorem scr_at (c : Cw CX k wd N sc X) {i : Nat} {ds : List D} {F : Addr → Prop} {ad : Nat → Addr} {σ : L2.St} {H : Hp} (s : StOk X.K wd.dr F ρ σ H ad) (hρ : ρ[i]? = some (.s ds)) : ∃ a vs, σ[i]? = some (some (.ref a)) ∧ SqL X.K H a vs ∧ Reps X.K (Ban F ρ ad) H vs ds := by
  obtain ⟨a, vs, e, r, rr⟩ := s.sl i _ hρ
  exact ⟨a, vs, e, r.imp (·.1) id, rr⟩
theorem ev_int {i : Int} {j : Nat} : Ev X wd ρ (.Constant (.int i) j pos) (ret (.int i)) := fun F ad σ H Q s q => be pe_int (q _ H (Grow.refl _ _) (.int i))
theorem ev_bl {i : Bool} {j : Nat} : Ev X wd ρ (.Constant (.bool i) j pos) (ret (.bool i)) := fun F ad σ H Q s q => be pe_bl (q _ H (Grow.refl _ _) (.bl i))
theorem ev_non {j : Nat} : Ev X wd ρ (.Constant .none j pos) (ret .none) := fun F ad σ H Q s q => be pe_non (q _ H (Grow.refl _ _) .non)
theorem ev_str {i : Str} {j : Nat} : Ev X wd ρ (.Constant (.str i) j pos) (ret (.str i)) := fun F ad σ H Q s q => be pe_str (q _ H (Grow.refl _ _) (.str i))
/-- a constant of the module -/
def GCon (K : PySem.W.Frag) (mg : Str → Option Value) (x : Str) (d : D) : Prop := ∃ v u, mg x = some u ∧ RelV v u ∧ ∀ (B : Addr → Prop) (H : Hp), Rep K B H v d
theorem ev_con (c : Cw CX k wd N sc X) {x : Str} {d : D} (hg : glB sc x = true) (hm : GCon X.K X.mg x d) : Ev X wd ρ (.Name x pos) (ret d) := fun F ad σ H Q s q => by
  obtain ⟨v1, v2, _⟩ := c.gl hg
  obtain ⟨v, u, h1, h2, h3⟩ := hm
  exact be (pe_glob v1 h1 h2 v2) (q _ H (Grow.refl _ _) (h3 _ H))
/-! ### operators -/
/-- how an operator by values computes -/
def OpS (K : PySem.W.Frag) (r : R2) (g : D → D → R D) : Prop := ∀ (B : Addr → Prop) (H : Hp) (x y : V) (d e : D) (Q : VK) (E : Nat → D → Prop), (∀ b, B b → Bd H b) → RepB K none B H x d → RepB K none B H y e →
  (g d e).wp (fun z => ∀ v H', Same H H' → Rep K B H' v z → Q v H') E → r x y H Q
theorem op_core {t : TE → TE → TE} {r : R2} {g : D → D → R D} {ra rb : R D} (ht : ∀ ta tb σ H Q, t ta tb σ H Q = (ta σ H fun x H1 => tb σ H1 fun y H2 => r x y H2 Q)) (hp : PE X e (t (BE X a) (BE X b))) (hs : OpS X.K r g)
    (ha : EvB X wd ρ a ra) (hb : EvB X wd ρ b rb) : Ev X wd ρ e (ra.bind fun x => rb.bind fun y => g x y) := fun F ad σ H Q s q => by
  refine be hp ?_
  rw [ht]
  rw [wp_bind] at q
  refine ha F ad σ H _ s (wp_mono (fun d q v H1 g1 r1 => ?_) (fun _ _ z => z) q)
  rw [wp_bind] at q
  have s1 := s.grow g1
  refine hb F ad σ H1 _ s1 (wp_mono (fun d2 q v2 H2 g2 r2 => ?_) (fun _ _ z => z.grow g1) q)
  have s2 := s1.grow g2
  exact hs (Ban F ρ ad) H2 v v2 d d2 Q _ (fun b z => s2.banned z) (r1.stay s1 g2).b r2.b (wp_mono (fun z q v H' sm r => q v H' (g1.trans (g2.trans (Grow.same sm))) r) (fun _ _ z => z) q)
theorem ev_op {op : Operator} {r : R2} {g : D → D → R D} {ra rb : R D} (ho : OpR X (binaryOp op) r) (hs : OpS X.K r g) (ha : EvB X wd ρ a ra) (hb : EvB X wd ρ b rb) : Ev X wd ρ (.BinOp a op b pos) (ra.bind fun x => rb.bind fun y => g x y) :=
  op_core (t := tOp r) (fun _ _ _ _ _ => rfl) (pe_op ho pe_b pe_b) hs ha hb
theorem ev_cmp {op : CmpOp} {r : R2} {g : D → D → R D} {ra rb : R D} (ho : OpR X (compareOp op) r) (hs : OpS X.K r g) (hm : behindInMarks op b = false) (ha : EvB X wd ρ a ra) (hb : EvB X wd ρ b rb) : Ev X wd ρ (.Compare a [op] [b] pos) (ra.bind fun x => rb.bind fun y => g x y) :=
  op_core (t := tOp r) (fun _ _ _ _ _ => rfl) (pe_cmpR ho pe_b pe_b hm) hs ha hb
theorem ev_ixr {ra rb : R D} {r : R2} {g : D → D → R D} (hr : IxR X r) (hs : OpS X.K r g) (hp : PlainIx b) (ha : EvB X wd ρ a ra) (hb : EvB X wd ρ b rb) : Ev X wd ρ (.Subscript a b pos) (ra.bind fun x => rb.bind fun y => g x y) :=
  op_core (t := tOp r) (fun _ _ _ _ _ => rfl) (pe_ix hr pe_b pe_b hp) hs ha hb
end
/-! ### the operators' rules -/
theorem same_stay {B : Addr → Prop} {H H' : Hp} (s : Same H H') : Stay B H H' := fun b o e _ => s b o e
theorem newtup {K : PySem.W.Frag} {B : Addr → Prop} {H : Hp} {p : Addr} {vs : List V} {ds : List D} (hb : ∀ b, B b → Bd H b) (hp : H p = none) (r : Reps K B H vs ds) : Rep K B (upd H p (.tup vs)) (.ref p) (.tuple ds) :=
  (.tup ⟨upd_same, fun z => by obtain ⟨o, e, _⟩ := hb p z; rw [hp] at e; cases e⟩ (r.stay (same_stay (same_upd hp))))
theorem newlst {K : PySem.W.Frag} {B : Addr → Prop} {H : Hp} {p : Addr} {vs : List V} {ds : List D} (hb : ∀ b, B b → Bd H b) (hp : H p = none) (r : Reps K B H vs ds) : Rep K B (upd H p (.lst vs)) (.ref p) (.list ds) :=
  .lst (.inl upd_same) (fun z => by obtain ⟨o, e, _⟩ := hb p z; rw [hp] at e; cases e) (r.stay (same_stay (same_upd hp)))
theorem Inv.lstR {X : Cx} {pins : List (Addr × Obj)} {σ : L2.St} {H : Hp} {s : Shared} {p : Addr} {xs : List V} (I : Inv X pins σ H s) (h : Rd H p (.lst xs)) :
    ∃ (its : List Value) (n : Nat), Vals xs its ∧ xs.length = its.length ∧ s.heap.get? p = some { cls := .type "list", data := .seq its.toArray n } ∧ xs.length ≤ sizeLine := by
  obtain ⟨z, its, n, r, e⟩ := h.ok I.hok
  exact ⟨its, n, r, r.length, e, z⟩
/-- list + list, also of lists that stand still -/
def rCatR : R2 := fun x y H Q => ∃ l b xs zs, x = .ref l ∧ y = .ref b ∧ Rd H l (.lst xs) ∧ Rd H b (.lst zs) ∧ xs.length + zs.length ≤ sizeLine ∧ ∀ p, H p = none → Q (.ref p) (upd H p (.lst (xs ++ zs)))
theorem op_catR {X : Cx} : OpR X (binaryOp .Add) rCatR := by
  intro pins s σ H x y v u Q I rx ry h
  obtain ⟨l, b, xs, zs, rfl, rfl, hH, hB, hz, q⟩ := h
  cases rx
  cases ry
  obtain ⟨its, n, r, hl, e, _⟩ := Inv.lstR I hH
  obtain ⟨its2, n2, r2, hl2, e2, _⟩ := Inv.lstR I hB
  refine PySem.P.add_list e e2 ?_ (by rw [List.size_toArray, List.size_toArray]; omega)
  have ea : its.toArray ++ its2.toArray = (its ++ its2).toArray := by simp
  rw [ea]
  refine ⟨.ref s.heap.objs.size, _, I.laid (t' := s.toks) (o := .lst (xs ++ zs)) (fun b ob q => Heap.get?_push_of_some _ q) (Nat.le_refl _) ?_, rfl, q _ (I.hok.fresh (Nat.le_refl _))⟩
  exact ⟨by rw [List.length_append]; omega, its ++ its2, 0, r.append r2, Heap.get?_push_size _ rfl⟩
def rAdd4 (K : PySem.W.Frag) : R2 := fun x y H Q => (∃ i j, x = .int i ∧ y = .int j ∧ Q (.int (i + j)) H) ∨ (∃ i j, x = .str i ∧ y = .str j ∧ i.length + j.length ≤ sizeLine ∧ Q (.str (i ++ j)) H) ∨ rCatA K x y H Q ∨ rCatR x y H Q
section
variable {X : Cx} {K : PySem.W.Frag}
theorem op_add4 : OpR X (binaryOp .Add) (rAdd4 X.K) := OpR.or op_add (OpR.or op_add_str (OpR.or op_catA op_catR))
theorem opS_add : OpS K (rAdd4 K) addR := by
  intro B H x y d e Q E hb hx hy q
  cases d with
  | int i =>
    cases e with
    | int j => exact .inl ⟨i, j, hx.int, hy.int, q _ _ (Same.refl _) (.int _)⟩
    | _ => exact q.elim
  | str i =>
    cases e with
    | str j =>
      obtain ⟨h, q⟩ := wp_ite q
      exact .inr (.inl ⟨i, j, hx.str, hy.str, h, q _ _ (Same.refl _) (.str _)⟩)
    | _ => exact q.elim
  | tuple xs =>
    cases e with
    | tuple ys =>
      obtain ⟨h, q⟩ := wp_ite q
      obtain ⟨a1, v1, rfl, h1, r1⟩ := hx.tuple
      obtain ⟨a2, v2, rfl, h2, r2⟩ := hy.tuple
      refine .inr (.inr (.inl ⟨a1, a2, v1, v2, rfl, rfl, h1.sq, h2.sq, by rw [r1.length, r2.length]; exact h, fun z => ?_, fun z z2 => ?_, fun z z2 p hp => ?_⟩))
      · subst z
        have z : xs = [] := List.eq_nil_of_length_eq_zero r1.length.symm
        subst z
        exact q _ _ (Same.refl _) (.tup h2 r2)
      · subst z2
        have z : ys = [] := List.eq_nil_of_length_eq_zero r2.length.symm
        subst z
        rw [List.append_nil] at q
        exact q _ _ (Same.refl _) (.tup h1 r1)
      · exact q _ _ (same_upd hp) (newtup hb hp (r1.append r2))
    | _ => exact q.elim
  | list xs =>
    cases e with
    | list ys =>
      obtain ⟨h, q⟩ := wp_ite q
      obtain ⟨a1, v1, rfl, h1, r1⟩ := hx.list
      obtain ⟨a2, v2, rfl, h2, r2⟩ := hy.list
      exact .inr (.inr (.inr ⟨a1, a2, v1, v2, rfl, rfl, h1, h2, by rw [r1.length, r2.length]; exact h, fun p hp => q _ _ (same_upd hp) (newlst hb hp (r1.append r2))⟩))
    | _ => exact q.elim
  | _ => exact q.elim
theorem opS_i0 {g : Int → Int → Int} {f : D → D → R D} (hf : ∀ i j, f (.int i) (.int j) = R.ret (.int (g i j))) (hn : ∀ d e, (∃ i j, d = .int i ∧ e = .int j) ∨ f d e = bad) : OpS K (rI0 fun i j => .int (g i j)) f := by
  intro B H x y d e Q E hb hx hy q
  rcases hn d e with ⟨i, j, rfl, rfl⟩ | z
  · rw [hf] at q
    exact ⟨i, j, hx.int, hy.int, q _ _ (Same.refl _) (.int _)⟩
  · rw [z] at q; exact q.elim
theorem opS_b0 {g : Int → Int → Bool} {f : D → D → R D} (hf : ∀ i j, f (.int i) (.int j) = R.ret (.bool (g i j))) (hn : ∀ d e, (∃ i j, d = .int i ∧ e = .int j) ∨ f d e = bad) : OpS K (rI0 fun i j => .bl (g i j)) f := by
  intro B H x y d e Q E hb hx hy q
  rcases hn d e with ⟨i, j, rfl, rfl⟩ | z
  · rw [hf] at q
    exact ⟨i, j, hx.int, hy.int, q _ _ (Same.refl _) (.bl _)⟩
  · rw [z] at q; exact q.elim
theorem opS_ic {C : Int → Int → Prop} [∀ i j, Decidable (C i j)] {g : Int → Int → Int} {f : D → D → R D} (hf : ∀ i j, f (.int i) (.int j) = if C i j then R.ret (.int (g i j)) else bad) (hn : ∀ d e, (∃ i j, d = .int i ∧ e = .int j) ∨ f d e = bad) :
    OpS K (rI C fun i j => .int (g i j)) f := by
  intro B H x y d e Q E hb hx hy q
  rcases hn d e with ⟨i, j, rfl, rfl⟩ | z
  · rw [hf] at q
    by_cases h : C i j
    · rw [if_pos h] at q
      exact ⟨i, j, hx.int, hy.int, h, q _ _ (Same.refl _) (.int _)⟩
    · rw [if_neg h] at q; exact q.elim
  · rw [z] at q; exact q.elim
theorem opS_sub : OpS K (rI0 fun i j => .int (i - j)) subR := opS_i0 (fun _ _ => rfl) fun d e => by cases d <;> cases e <;> first | exact .inl ⟨_, _, rfl, rfl⟩ | exact .inr rfl
theorem op_fdivL {X : Cx} : OpR X (binaryOp .FloorDiv) (rI CDivL fun i j => .int (i.fdiv j)) := opI fun _ _ _ _ _ _ _ hc q => floordiv_int hc.1 q (.inl (PyProof.noPylong_of_log2 (by
  have h1 := hc.1
  have h2 := hc.2
  exact Nat.lt_of_lt_of_le ((Nat.log2_lt (by omega)).mpr h2) (by decide))))
theorem opS_fdiv : OpS K (rI CDivL fun i j => .int (i.fdiv j)) fdivR :=
  @opS_ic K CDivL (fun i j => inferInstance) _ _ (fun _ _ => by unfold fdivR; rfl) fun d e => by cases d <;> cases e <;> first | exact .inl ⟨_, _, rfl, rfl⟩ | exact .inr rfl
theorem opS_mod : OpS K (rI (fun _ j => j ≠ 0) fun i j => .int (i.fmod j)) modR :=
  @opS_ic K (fun _ j => j ≠ 0) (fun i j => inferInstance) _ _ (fun _ _ => rfl) fun d e => by cases d <;> cases e <;> first | exact .inl ⟨_, _, rfl, rfl⟩ | exact .inr rfl
theorem opS_pow : OpS K (rI CPow fun i j => .int (i ^ j.toNat)) powR :=
  @opS_ic K CPow (fun i j => by unfold CPow; exact inferInstance) _ _ (fun _ _ => by unfold powR CPow; rfl) fun d e => by cases d <;> cases e <;> first | exact .inl ⟨_, _, rfl, rfl⟩ | exact .inr rfl
theorem opS_lt : OpS K (rI0 fun i j => .bl (decide (i < j))) ltR := opS_b0 (fun _ _ => rfl) fun d e => by cases d <;> cases e <;> first | exact .inl ⟨_, _, rfl, rfl⟩ | exact .inr rfl
theorem opS_le : OpS K (rI0 fun i j => .bl (decide (i ≤ j))) leR := opS_b0 (fun _ _ => rfl) fun d e => by cases d <;> cases e <;> first | exact .inl ⟨_, _, rfl, rfl⟩ | exact .inr rfl
theorem opS_gt : OpS K (rI0 fun i j => .bl (decide (j < i))) gtR := opS_b0 (fun _ _ => rfl) fun d e => by cases d <;> cases e <;> first | exact .inl ⟨_, _, rfl, rfl⟩ | exact .inr rfl
theorem opS_ge : OpS K (rI0 fun i j => .bl (decide (j ≤ i))) geR := opS_b0 (fun _ _ => rfl) fun d e => by cases d <;> cases e <;> first | exact .inl ⟨_, _, rfl, rfl⟩ | exact .inr rfl
theorem opS_eq : OpS K (rEqD K) eqR := by
  intro B H x y d e Q E hb hx hy q
  unfold eqR at q
  by_cases h : SeqAt.shaped d = true ∧ SeqAt.shaped e = true
  · rw [if_pos h] at q
    exact ⟨d, e, hx.dp, hy.dp, h.1, h.2, q _ _ (Same.refl _) (.bl _)⟩
  · rw [if_neg h] at q; exact q.elim
theorem opS_ne : OpS K (rNeD K) neR := by
  intro B H x y d e Q E hb hx hy q
  unfold neR at q
  by_cases h : SeqAt.shaped d = true ∧ SeqAt.shaped e = true
  · rw [if_pos h] at q
    exact ⟨d, e, hx.dp, hy.dp, h.1, h.2, q _ _ (Same.refl _) (.bl _)⟩
  · rw [if_neg h] at q; exact q.elim
def rIs2 : R2 := fun x y H Q => (y = .non ∧ Q (.bl (decide (x = .non))) H) ∨ (∃ a b, x = .bl a ∧ y = .bl b ∧ Q (.bl (decide (a = b))) H)
def rIsNot2 : R2 := fun x y H Q => (y = .non ∧ Q (.bl (!decide (x = .non))) H) ∨ (∃ a b, x = .bl a ∧ y = .bl b ∧ Q (.bl (!decide (a = b))) H)
theorem op_is2 : OpR X (compareOp .Is) rIs2 := OpR.or op_isN op_is_bl
theorem op_isNot2 : OpR X (compareOp .IsNot) rIsNot2 := OpR.or op_notN op_isnot_bl
theorem isNone_dec {B : Addr → Prop} {H : Hp} {x : V} {d : D} (h : RepB K dr B H x d) : isNone d = decide (x = .non) := by
  cases d with
  | none => rw [h.non]; rfl
  | bool b => rw [h.bool]; rfl
  | int b => rw [h.int]; rfl
  | str b => rw [h.str]; rfl
  | list ds => obtain ⟨a, vs, rfl, _⟩ := h.list; rfl
  | tuple ds => obtain ⟨a, vs, rfl, _⟩ := h.tuple; rfl
  | dict _ => exact h.nodict.elim
theorem opS_is : OpS K rIs2 isR := by
  intro B H x y d e Q E hb hx hy q
  cases e with
  | none =>
    refine .inl ⟨hy.non, ?_⟩
    rw [← isNone_dec hx]
    exact q _ _ (Same.refl _) (.bl _)
  | bool b =>
    cases d with
    | bool a => exact .inr ⟨a, b, hx.bool, hy.bool, q _ _ (Same.refl _) (.bl _)⟩
    | _ => exact q.elim
  | _ => exact q.elim
theorem opS_isNot : OpS K rIsNot2 isNotR := by
  intro B H x y d e Q E hb hx hy q
  cases e with
  | none =>
    refine .inl ⟨hy.non, ?_⟩
    rw [← isNone_dec hx]
    exact q _ _ (Same.refl _) (.bl _)
  | bool b =>
    cases d with
    | bool a => exact .inr ⟨a, b, hx.bool, hy.bool, q _ _ (Same.refl _) (.bl _)⟩
    | _ => exact q.elim
  | _ => exact q.elim
theorem at_rep {B : Addr → Prop} {H : Hp} {vs : List V} {ds : List D} {i : Int} {d : D} (r : Reps K B H vs ds) (h : atI ds i = some d) : ∃ v, atI vs i = some v ∧ Rep K B H v d := by
  unfold atI at h ⊢
  rw [r.length]
  cases e : ixN ds.length i with
  | none => rw [e] at h; cases h
  | some j => rw [e] at h; exact r.get h
theorem opS_ix : OpS K (rIx K) ixR := by
  intro B H x y d e Q E hb hx hy q
  cases e with
  | int i =>
    cases d with
    | list ds =>
      obtain ⟨a, vs, rfl, h1, r1⟩ := hx.list
      have q : (optR (atI ds i)).wp (fun z => ∀ v H', Same H H' → Rep K B H' v z → Q v H') E := q
      cases h : atI ds i with
      | none => rw [h] at q; exact q.elim
      | some d =>
        rw [h] at q
        obtain ⟨v, hv, rv⟩ := at_rep r1 h
        exact .inl ⟨a, vs, i, v, rfl, hy.int, .inl h1, hv, q _ _ (Same.refl _) rv⟩
    | tuple ds =>
      obtain ⟨a, vs, rfl, h1, r1⟩ := hx.tuple
      have q : (optR (atI ds i)).wp (fun z => ∀ v H', Same H H' → Rep K B H' v z → Q v H') E := q
      cases h : atI ds i with
      | none => rw [h] at q; exact q.elim
      | some d =>
        rw [h] at q
        obtain ⟨v, hv, rv⟩ := at_rep r1 h
        exact .inr (.inl ⟨a, vs, i, v, rfl, hy.int, h1.sq, hv, q _ _ (Same.refl _) rv⟩)
    | str z =>
      obtain ⟨h, q⟩ := wp_ite q
      cases h2 : atI z.cps.toList i with
      | none => rw [h2] at q; exact q.elim
      | some c => rw [h2] at q; exact .inr (.inr ⟨z, i, c, hx.str, hy.int, h, h2, q _ _ (Same.refl _) (.str _)⟩)
    | _ => exact q.elim
  | _ => cases d <;> exact q.elim
end
section
variable {CX : CXT} {k : Nat} {wd : Wd} {N : List Str} {sc : Scope} {X : Cx} {ρ : List Sl} {e a b : Expr} {pos : Pos} {ra rb : R D}
theorem ev_add (ha : EvB X wd ρ a ra) (hb : EvB X wd ρ b rb) : Ev X wd ρ (.BinOp a .Add b pos) (ra.bind fun x => rb.bind fun y => addR x y) := ev_op op_add4 opS_add ha hb
theorem ev_sub (ha : EvB X wd ρ a ra) (hb : EvB X wd ρ b rb) : Ev X wd ρ (.BinOp a .Sub b pos) (ra.bind fun x => rb.bind fun y => subR x y) := ev_op op_sub opS_sub ha hb
theorem ev_fdiv (ha : EvB X wd ρ a ra) (hb : EvB X wd ρ b rb) : Ev X wd ρ (.BinOp a .FloorDiv b pos) (ra.bind fun x => rb.bind fun y => fdivR x y) := ev_op op_fdivL opS_fdiv ha hb
theorem ev_mod (ha : EvB X wd ρ a ra) (hb : EvB X wd ρ b rb) : Ev X wd ρ (.BinOp a .Mod b pos) (ra.bind fun x => rb.bind fun y => modR x y) := ev_op op_modN opS_mod ha hb
theorem ev_pow (ha : EvB X wd ρ a ra) (hb : EvB X wd ρ b rb) : Ev X wd ρ (.BinOp a .Pow b pos) (ra.bind fun x => rb.bind fun y => powR x y) := ev_op op_pow opS_pow ha hb
theorem ev_lt (ha : EvB X wd ρ a ra) (hb : EvB X wd ρ b rb) : Ev X wd ρ (.Compare a [.Lt] [b] pos) (ra.bind fun x => rb.bind fun y => ltR x y) := ev_cmp op_lt opS_lt (nobehind _ (by decide) (by decide)) ha hb
theorem ev_le (ha : EvB X wd ρ a ra) (hb : EvB X wd ρ b rb) : Ev X wd ρ (.Compare a [.LtE] [b] pos) (ra.bind fun x => rb.bind fun y => leR x y) := ev_cmp op_le opS_le (nobehind _ (by decide) (by decide)) ha hb
theorem ev_gt (ha : EvB X wd ρ a ra) (hb : EvB X wd ρ b rb) : Ev X wd ρ (.Compare a [.Gt] [b] pos) (ra.bind fun x => rb.bind fun y => gtR x y) := ev_cmp op_gt opS_gt (nobehind _ (by decide) (by decide)) ha hb
theorem ev_ge (ha : EvB X wd ρ a ra) (hb : EvB X wd ρ b rb) : Ev X wd ρ (.Compare a [.GtE] [b] pos) (ra.bind fun x => rb.bind fun y => geR x y) := ev_cmp op_ge opS_ge (nobehind _ (by decide) (by decide)) ha hb
theorem ev_eq (c : Cw CX k wd N sc X) (ha : EvB X wd ρ a ra) (hb : EvB X wd ρ b rb) : Ev X wd ρ (.Compare a [.Eq] [b] pos) (ra.bind fun x => rb.bind fun y => eqR x y) := ev_cmp (op_eqD c.u64) opS_eq (nobehind _ (by decide) (by decide)) ha hb
theorem ev_ne (c : Cw CX k wd N sc X) (ha : EvB X wd ρ a ra) (hb : EvB X wd ρ b rb) : Ev X wd ρ (.Compare a [.NotEq] [b] pos) (ra.bind fun x => rb.bind fun y => neR x y) := ev_cmp (op_neD c.u64) opS_ne (nobehind _ (by decide) (by decide)) ha hb
theorem ev_is (ha : EvB X wd ρ a ra) (hb : EvB X wd ρ b rb) : Ev X wd ρ (.Compare a [.Is] [b] pos) (ra.bind fun x => rb.bind fun y => isR x y) := ev_cmp op_is2 opS_is (nobehind _ (by decide) (by decide)) ha hb
theorem ev_isNot (ha : EvB X wd ρ a ra) (hb : EvB X wd ρ b rb) : Ev X wd ρ (.Compare a [.IsNot] [b] pos) (ra.bind fun x => rb.bind fun y => isNotR x y) := ev_cmp op_isNot2 opS_isNot (nobehind _ (by decide) (by decide)) ha hb
theorem ev_ix (ha : EvB X wd ρ a ra) (hb : EvB X wd ρ b rb) (hp : PlainIx b := by exact fun _ _ => rfl) : Ev X wd ρ (.Subscript a b pos) (ra.bind fun x => rb.bind fun y => ixR x y) := ev_ixr ix_seq opS_ix hp ha hb
end
end Pu
/-! Pf: more expressions: products, tests, slices, displays, calls, comprehensions. -/
namespace Pu
open PySem PySem.Spec PyProof.Rows L2 R
/-! ### products -/
theorem tuple_mul1 (l : Addr) (items : Array Value) (n : Nat) (dd : Option Addr) (sl : Array (Option Value)) (u : Tok) :
    Meets (Builtin.«tuple.__mul__» ⟨[.ref l, .int 1 u], []⟩) (fun _ R s => s.heap.get? l = some { cls := .type "tuple", dict := dd, data := .seq items n, slots := sl } ∧
      R (.ok (.ret (Value.ref l))) s) :=
  .of_wp fun prog w A R s h => by
    obtain ⟨hp, g, d, tk, os⟩ := s
    obtain ⟨hl, h⟩ := h
    have f1 := AutoSeq1.idx_int
    have c0 : (decide ((1 : Int) < -(2 ^ 63)) || decide ((1 : Int) ≥ 2 ^ 63)) = false := by decide
    have c1 : (items.isEmpty || (1 : Int) == 1) = true := by simp
    wp_walk using wpAny_loadPart' hl
    repeat (first
      | (refine wpAny_ite_false (decide_eq_false (by rw [c0]; exact Bool.false_ne_true)) ?_; wp_walk using wpAny_loadPart' hl)
      | (refine wpAny_ite_true (decide_eq_true c1) ?_; wp_walk using wpAny_loadPart' hl)
      | (refine wpAny_ite_true rfl ?_; wp_walk using wpAny_loadPart' hl))
    exact ⟨_, rfl, h⟩
def rRepT1 (K : PySem.W.Frag) : R2 := fun x y H Q => ∃ l xs, x = .ref l ∧ y = .int 1 ∧ SqT K H l xs ∧ Q (.ref l) H
theorem op_repT1 {X : Cx} : OpR X (binaryOp .Mult) (rRepT1 X.K) := by
  intro pins s σ H x y v u Q I rx ry h
  obtain ⟨l, xs, rfl, rfl, hT, q⟩ := h
  cases rx
  obtain ⟨t, rfl⟩ := ry
  obtain ⟨its, r, ⟨⟨cls, dd, data, sl⟩, ho, hc, n, hd⟩, hs⟩ := I.tuple hT
  simp only at hc hd
  subst hc hd
  exact wpAny_binaryOp_repeat_ref (T := "tuple") (U := "int") (by decide) ⟨_, ho, rfl⟩ (fun s' => typeIs_int s' 1 t) noFill_tuple_mul F.fills_int_mul F.slot_int_rmul repeat_tuple F.slot_int_index.lookup
    (call_meets F.slot_int_rmul (typeIs_int s 1 t) F.entry_int_rmul (F.args_int_rmul_2 _ _) (int_rmul_tuple 1 t l its.toArray n dd sl)
      ⟨ho, rfl, ⟨_, ho, rfl⟩, call_meets F.slot_tuple_mul ⟨_, ho, rfl⟩ F.entry_tuple_mul (F.args_tuple_mul_2 _ _) (tuple_mul1 l its.toArray n dd sl t) ⟨ho, ⟨.ref l, _, I, rfl, q⟩⟩⟩)
def rRepR : R2 := fun x y H Q => ∃ l k xs, x = .ref l ∧ y = .int k ∧ Rd H l (.lst xs) ∧ -(2 ^ 63) ≤ k ∧ k < 2 ^ 63 ∧ xs.length * k.toNat ≤ sizeLine ∧
  ∀ p, H p = none → Q (.ref p) (upd H p (.lst (List.replicate k.toNat xs).flatten))
theorem rep_foldl (zs : List Value) (m : Nat) : (List.replicate m zs.toArray).foldl (· ++ ·) #[] = (List.replicate m zs).flatten.toArray := by
  simpa using foldl_rep zs m []
theorem op_repR {X : Cx} : OpR X (binaryOp .Mult) rRepR := by
  intro pins s σ H x y v u Q I rx ry ⟨l, k, xs, ex, ey, hH, h1, h2, hz, q⟩
  subst ex ey
  cases rx
  obtain ⟨t, rfl⟩ := ry
  obtain ⟨zs, n, r, hl, e, _⟩ := Inv.lstR I hH
  have hs : zs.toArray.size * k.toNat ≤ sizeLine := by simpa [hl] using hz
  have c1 : ¬ (!Builtin.List.listFitsIndex k) = true := by simp [fitsIndex_both h1 h2]
  have c2 : ¬ zs.toArray.size * k.toNat > (2 ^ 63 - 1) / 8 := by
    have := (by decide : (sizeLine : Nat) ≤ (2 ^ 63 - 1) / 8)
    omega
  have c3 : ¬ Builtin.List.listTooLong (zs.toArray.size * k.toNat) = true := by rw [notLongL hs]; simp
  have ez : (List.replicate (if zs.toArray.isEmpty = true then 0 else k.toNat) zs.toArray).foldl (· ++ ·) #[] = (List.replicate k.toNat zs).flatten.toArray := by
    rw [rep_foldl]
    cases zs <;> simp
  have hn : H s.heap.objs.size = none := I.hok.fresh (Nat.le_refl _)
  have tI := fun s' : Shared => typeIs_int s' k t
  have tL : s.TypeIs (.ref l) "list" := ⟨_, e, rfl⟩
  refine wpAny_binaryOp_repeat_ref (by decide) tL tI noFill_list_mul F.fills_int_mul F.slot_int_rmul repeat_list F.slot_int_index.lookup ?_
  refine call_meets F.slot_int_rmul (tI s) F.entry_int_rmul (F.args_int_rmul_2 _ _) (int___rmul___int_list k t l zs.toArray n) ⟨e, rfl, tL, ?_⟩
  refine call_meets F.slot_list_mul tL F.entry_list_mul (F.args_list_mul_2 _ _) (AutoListH.list___mul___list_int_3 l zs.toArray n k t c1 c2 c3) ⟨e, ?_⟩
  rw [ez]
  refine ⟨.ref s.heap.objs.size, _, I.lnew (t' := s.toks) (r.rep k.toNat) ?_, rfl, q _ hn⟩
  rw [PyProof.Rows.lm_len_rep_flat, Nat.mul_comm]
  omega
def rMul4 (K : PySem.W.Frag) : R2 := fun x y H Q => rI CMul (fun i j => .int (i * j)) x y H Q ∨ rRepT1 K x y H Q ∨ rRepT K x y H Q ∨ rRepR x y H Q
theorem op_mul4 {X : Cx} : OpR X (binaryOp .Mult) (rMul4 X.K) := OpR.or op_mul (OpR.or op_repT1 (OpR.or op_repT op_repR))
theorem opS_mul {K : PySem.W.Frag} : OpS K (rMul4 K) mulR := by
  intro B H x y d e Q E hb hx hy q
  cases e with
  | int k =>
    cases d with
    | int i =>
      obtain ⟨h, q⟩ := wp_ite q
      exact .inl ⟨i, k, hx.int, hy.int, h, q _ _ (Same.refl _) (.int _)⟩
    | tuple xs =>
      obtain ⟨⟨h1, h2, h3, h4⟩, q⟩ := wp_ite q
      obtain ⟨a1, v1, rfl, g1, r1⟩ := hx.tuple
      by_cases k1 : k = 1
      · subst k1
        have e1 : (List.replicate (1 : Int).toNat xs).flatten = xs := by show (List.replicate 1 xs).flatten = xs; simp
        rw [e1] at q
        exact .inr (.inl ⟨a1, v1, rfl, hy.int, g1.sq, q _ _ (Same.refl _) (.tup g1 r1)⟩)
      · refine .inr (.inr (.inl ⟨a1, k, v1, rfl, hy.int, g1.sq, fun z => h1 ?_, by omega, h3, by rw [r1.length]; exact h4, fun p hp => q _ _ (same_upd hp) (newtup hb hp (r1.rep _))⟩))
        subst z
        exact List.eq_nil_of_length_eq_zero r1.length.symm
    | list xs =>
      obtain ⟨⟨h1, h2, h3⟩, q⟩ := wp_ite q
      obtain ⟨a1, v1, rfl, g1, r1⟩ := hx.list
      exact .inr (.inr (.inr ⟨a1, k, v1, rfl, hy.int, g1, h1, h2, by rw [r1.length]; exact h3, fun p hp => q _ _ (same_upd hp) (newlst hb hp (r1.rep _))⟩))
    | _ => exact q.elim
  | _ => cases d <;> exact q.elim
section
variable {CX : CXT} {k : Nat} {wd : Wd} {N : List Str} {sc : Scope} {X : Cx} {ρ : List Sl} {e a b c : Expr} {rest : List Expr} {pos : Pos} {ra rb : R D}
theorem ev_mul (ha : EvB X wd ρ a ra) (hb : EvB X wd ρ b rb) : Ev X wd ρ (.BinOp a .Mult b pos) (ra.bind fun x => rb.bind fun y => mulR x y) := ev_op op_mul4 opS_mul ha hb
theorem ev_neg (ha : EvB X wd ρ a ra) : Ev X wd ρ (.UnaryOp .USub a pos) (ra.bind fun x => negR x) := fun F ad σ H Q s q => by
  refine be (pe_un un_neg pe_b) ?_
  rw [wp_bind] at q
  refine ha F ad σ H _ s (wp_mono (fun d q v H1 g1 r1 => ?_) (fun _ _ z => z) q)
  cases d with
  | int i => exact ⟨i, r1.int, q _ _ g1 (.int _)⟩
  | _ => exact q.elim
theorem post_grow {F : Addr → Prop} {ad : Nat → Addr} {H H1 : Hp} {Q : VK} {r : R D} (g : Grow wd.dr H H1) (q : r.wp (fun d => ∀ v H', Grow wd.dr H H' → Rep X.K (Ban F ρ ad) H' v d → Q v H') (XP X wd F ρ ad H)) :
    r.wp (fun d => ∀ v H', Grow wd.dr H1 H' → Rep X.K (Ban F ρ ad) H' v d → Q v H') (XP X wd F ρ ad H1) := wp_mono (fun _ z v H' g' r => z v H' (g.trans g') r) (fun _ _ z => z.grow g) q
theorem postT_grow {F : Addr → Prop} {ad : Nat → Addr} {H H1 : Hp} {Q : Bool → Hp → Prop} {r : R Bool} (g : Grow wd.dr H H1) (q : r.wp (fun d => ∀ H', Grow wd.dr H H' → Q d H') (XP X wd F ρ ad H)) :
    r.wp (fun d => ∀ H', Grow wd.dr H1 H' → Q d H') (XP X wd F ρ ad H1) := wp_mono (fun _ z H' g' => z H' (g.trans g')) (fun _ _ z => z.grow g) q
/-! ### truth -/
theorem tru_of {B : Addr → Prop} {K : PySem.W.Frag} {H : Hp} {v : V} {d : D} (r : RepB K dr B H v d) {Q : Bool → Prop} {E : Nat → D → Prop} (q : (truR d).wp Q E) : ∃ k, TruV K v H k ∧ Q k := by
  cases d with
  | none => rw [r.non]; exact ⟨false, rfl, q⟩
  | bool b => rw [r.bool]; exact ⟨b, rfl, q⟩
  | int b => rw [r.int]; exact ⟨_, rfl, q⟩
  | str x =>
    obtain ⟨h, q⟩ := wp_ite q
    rw [r.str]
    refine ⟨_, ⟨h, rfl⟩, ?_⟩
    have e : ((x.length : Int) != 0) = (x.length != 0) := by
      cases x.length with
      | zero => rfl
      | succ n => simp; omega
    rw [e]
    exact q
  | list xs =>
    obtain ⟨a, vs, rfl, e, rr⟩ := r.list
    refine ⟨_, .inl ⟨vs, .inl e, rfl⟩, ?_⟩
    have e : vs.isEmpty = xs.isEmpty := by
      have := rr.length
      cases vs <;> cases xs <;> simp_all
    rw [e]
    exact q
  | tuple xs =>
    obtain ⟨a, vs, rfl, e, rr⟩ := r.tuple
    refine ⟨_, .inr (.inl ⟨vs, e.sq, rfl⟩), ?_⟩
    have e : vs.isEmpty = xs.isEmpty := by
      have := rr.length
      cases vs <;> cases xs <;> simp_all
    rw [e]
    exact q
  | dict _ => exact r.nodict.elim
/-- an expression's truth as a test -/
theorem evt_tru (ha : EvB X wd ρ a ra) (he : ∀ whole, isTrue a X.env whole = (do let v ← whole; standAt a.pos; holding [v] (truthy v)) := by exact fun _ => rfl) : EvT X wd ρ a (ra.bind fun x => truR x) := fun F ad σ H Q s q => by
  refine bt (pt_truth pe_b he) ?_
  rw [wp_bind] at q
  refine ha F ad σ H _ s (wp_mono (fun d q v H1 g1 r1 => ?_) (fun _ _ z => z) q)
  exact tru_of r1 (wp_mono (fun b z => z _ g1) (fun _ _ z => z) q)
/-- an expression that is a bool, as a test -/
theorem evt_val (ha : EvB X wd ρ a ra) (he : ∀ whole, isTrue a X.env whole = (do let v ← whole; standAt a.pos; holding [v] (truthy v)) := by exact fun _ => rfl) : EvT X wd ρ a (ra.bind fun x => boolR x) := fun F ad σ H Q s q => by
  refine bt (pt_val pe_b he) ?_
  rw [wp_bind] at q
  refine ha F ad σ H _ s (wp_mono (fun d q v H1 g1 r1 => ?_) (fun _ _ z => z) q)
  cases d with
  | bool i => exact ⟨i, r1.bool, q _ g1⟩
  | _ => exact q.elim
/-- a comparison as a test -/
theorem evt_cmp {op : CmpOp} {r : R2} {g : D → D → R D} (ho : OpR X (compareOp op) r) (hs : OpS X.K r g) (hm : behindInMarks op b = false) (ha : EvB X wd ρ a ra) (hb : EvB X wd ρ b rb) : EvT X wd ρ (.Compare a [op] [b] pos) (ra.bind fun x => rb.bind fun y => (g x y).bind boolR) := fun F ad σ H Q s q => by
  refine bt (pt_cmpR ho pe_b pe_b hm) ?_
  rw [wp_bind] at q
  refine ha F ad σ H _ s (wp_mono (fun d q v H1 g1 r1 => ?_) (fun _ _ z => z) q)
  rw [wp_bind] at q
  have s1 := s.grow g1
  refine hb F ad σ H1 _ s1 (wp_mono (fun d2 q v2 H2 g2 r2 => ?_) (fun _ _ z => z.grow g1) q)
  have s2 := s1.grow g2
  rw [wp_bind] at q
  refine hs (Ban F ρ ad) H2 v v2 d d2 _ _ (fun b z => s2.banned z) (r1.stay s1 g2).b r2.b (wp_mono (fun z q v H' sm r => ?_) (fun _ _ z => z) q)
  cases z with
  | bool i => exact ⟨i, RepB.bool (dr := none) (.inl r), q _ (g1.trans (g2.trans (Grow.same sm)))⟩
  | _ => exact q.elim
theorem evt_lt (ha : EvB X wd ρ a ra) (hb : EvB X wd ρ b rb) : EvT X wd ρ (.Compare a [.Lt] [b] pos) (ra.bind fun x => rb.bind fun y => (ltR x y).bind boolR) := evt_cmp op_lt opS_lt (nobehind _ (by decide) (by decide)) ha hb
theorem evt_le (ha : EvB X wd ρ a ra) (hb : EvB X wd ρ b rb) : EvT X wd ρ (.Compare a [.LtE] [b] pos) (ra.bind fun x => rb.bind fun y => (leR x y).bind boolR) := evt_cmp op_le opS_le (nobehind _ (by decide) (by decide)) ha hb
theorem evt_gt (ha : EvB X wd ρ a ra) (hb : EvB X wd ρ b rb) : EvT X wd ρ (.Compare a [.Gt] [b] pos) (ra.bind fun x => rb.bind fun y => (gtR x y).bind boolR) := evt_cmp op_gt opS_gt (nobehind _ (by decide) (by decide)) ha hb
theorem evt_ge (ha : EvB X wd ρ a ra) (hb : EvB X wd ρ b rb) : EvT X wd ρ (.Compare a [.GtE] [b] pos) (ra.bind fun x => rb.bind fun y => (geR x y).bind boolR) := evt_cmp op_ge opS_ge (nobehind _ (by decide) (by decide)) ha hb
theorem evt_eq (c : Cw CX k wd N sc X) (ha : EvB X wd ρ a ra) (hb : EvB X wd ρ b rb) : EvT X wd ρ (.Compare a [.Eq] [b] pos) (ra.bind fun x => rb.bind fun y => (eqR x y).bind boolR) := evt_cmp (op_eqD c.u64) opS_eq (nobehind _ (by decide) (by decide)) ha hb
theorem evt_ne (c : Cw CX k wd N sc X) (ha : EvB X wd ρ a ra) (hb : EvB X wd ρ b rb) : EvT X wd ρ (.Compare a [.NotEq] [b] pos) (ra.bind fun x => rb.bind fun y => (neR x y).bind boolR) := evt_cmp (op_neD c.u64) opS_ne (nobehind _ (by decide) (by decide)) ha hb
theorem evt_is (ha : EvB X wd ρ a ra) (hb : EvB X wd ρ b rb) : EvT X wd ρ (.Compare a [.Is] [b] pos) (ra.bind fun x => rb.bind fun y => (isR x y).bind boolR) := evt_cmp op_is2 opS_is (nobehind _ (by decide) (by decide)) ha hb
theorem evt_isNot (ha : EvB X wd ρ a ra) (hb : EvB X wd ρ b rb) : EvT X wd ρ (.Compare a [.IsNot] [b] pos) (ra.bind fun x => rb.bind fun y => (isNotR x y).bind boolR) := evt_cmp op_isNot2 opS_isNot (nobehind _ (by decide) (by decide)) ha hb
variable {ta tb : R Bool}
theorem evt_not (ha : EvT X wd ρ a ta) : EvT X wd ρ (.UnaryOp .Not a pos) (ta.bind fun b => R.ret (!b)) := fun F ad σ H Q s q => by
  refine bt (pt_not pt_b) ?_
  rw [wp_bind] at q
  exact ha F ad σ H _ s q
theorem evw_and1 (ha : EvT X wd ρ a ta) : EvW X wd ρ (.BoolOp .And [a] pos) ta := fun F ad σ H Q s q => bw (pw_and1 pt_b) (ha F ad σ H _ s q)
theorem evw_or1 (ha : EvT X wd ρ a ta) : EvW X wd ρ (.BoolOp .Or [a] pos) ta := fun F ad σ H Q s q => bw (pw_or1 pt_b) (ha F ad σ H _ s q)
theorem evw_and (ha : EvT X wd ρ a ta) (hb : EvW X wd ρ (.BoolOp .And (b :: rest) pos) tb) : EvW X wd ρ (.BoolOp .And (a :: b :: rest) pos) (ta.bind fun x => if x = true then tb else R.ret false) := fun F ad σ H Q s q => by
  refine bw (pw_and pt_b pw_b) ?_
  rw [wp_bind] at q
  refine ha F ad σ H _ s (wp_mono (fun x q H1 g1 => ?_) (fun _ _ z => z) q)
  cases x with
  | true => exact iteT (hb F ad σ H1 _ (s.grow g1) (postT_grow g1 q))
  | false => exact iteF (q _ g1)
theorem evw_or (ha : EvT X wd ρ a ta) (hb : EvW X wd ρ (.BoolOp .Or (b :: rest) pos) tb) : EvW X wd ρ (.BoolOp .Or (a :: b :: rest) pos) (ta.bind fun x => if x = true then R.ret true else tb) := fun F ad σ H Q s q => by
  refine bw (pw_or pt_b pw_b) ?_
  rw [wp_bind] at q
  refine ha F ad σ H _ s (wp_mono (fun x q H1 g1 => ?_) (fun _ _ z => z) q)
  cases x with
  | false => exact iteF (hb F ad σ H1 _ (s.grow g1) (postT_grow g1 q))
  | true => exact iteT (q _ g1)
theorem evt_w (ha : EvW X wd ρ a ta) : EvT X wd ρ a ta := fun F ad σ H Q s q => bt pw_b.pt (ha F ad σ H _ s q)
/-! .. as values -/
theorem ev_one {op : PySem.BoolOp} (ha : Ev X wd ρ a ra) : Ev X wd ρ (.BoolOp op [a] pos) ra := fun F ad σ H Q s q => be (pe_one pe_b) (ha F ad σ H _ s q)
theorem ev_and (ha : Ev X wd ρ a ra) (hb : Ev X wd ρ (.BoolOp .And (b :: rest) pos) rb) : Ev X wd ρ (.BoolOp .And (a :: b :: rest) pos) (ra.bind fun x => (boolR x).bind fun x => if x = true then rb else R.ret (.bool false)) := fun F ad σ H Q s q => by
  refine be (pe_and pe_b pe_b) ?_
  rw [wp_bind] at q
  refine ha F ad σ H _ s (wp_mono (fun x q v H1 g1 r1 => ?_) (fun _ _ z => z) q)
  cases x with
  | bool x =>
    refine ⟨x, RepB.bool (dr := none) (.inl r1), ?_⟩
    cases x with
    | true => exact iteT (hb F ad σ H1 _ (s.grow g1) (post_grow g1 q))
    | false => exact iteF (q _ _ g1 (.bl _))
  | _ => exact q.elim
theorem ev_or (ha : Ev X wd ρ a ra) (hb : Ev X wd ρ (.BoolOp .Or (b :: rest) pos) rb) : Ev X wd ρ (.BoolOp .Or (a :: b :: rest) pos) (ra.bind fun x => (boolR x).bind fun x => if x = true then R.ret (.bool true) else rb) := fun F ad σ H Q s q => by
  refine be (pe_or pe_b pe_b) ?_
  rw [wp_bind] at q
  refine ha F ad σ H _ s (wp_mono (fun x q v H1 g1 r1 => ?_) (fun _ _ z => z) q)
  cases x with
  | bool x =>
    refine ⟨x, RepB.bool (dr := none) (.inl r1), ?_⟩
    cases x with
    | false => exact iteF (hb F ad σ H1 _ (s.grow g1) (post_grow g1 q))
    | true => exact iteT (q _ _ g1 (.bl _))
  | _ => exact q.elim
theorem ev_not (ha : Ev X wd ρ a ra) : Ev X wd ρ (.UnaryOp .Not a pos) (ra.bind fun x => notR x) := fun F ad σ H Q s q => by
  refine be (pe_not pe_b) ?_
  rw [wp_bind] at q
  refine ha F ad σ H _ s (wp_mono (fun x q v H1 g1 r1 => ?_) (fun _ _ z => z) q)
  cases x with
  | bool x => exact ⟨x, RepB.bool (dr := none) (.inl r1), q _ _ g1 (.bl _)⟩
  | _ => exact q.elim
theorem ev_ifExp (hc : EvT X wd ρ c ta) (ha : Ev X wd ρ a ra) (hb : Ev X wd ρ b rb) : Ev X wd ρ (.IfExp c a b pos) (ta.bind fun x => if x = true then ra else rb) := fun F ad σ H Q s q => by
  refine be (pe_ifExp pt_b pe_b pe_b) ?_
  rw [wp_bind] at q
  refine hc F ad σ H _ s (wp_mono (fun x q H1 g1 => ?_) (fun _ _ z => z) q)
  cases x with
  | true => exact iteT (ha F ad σ H1 _ (s.grow g1) (post_grow g1 q))
  | false => exact iteF (hb F ad σ H1 _ (s.grow g1) (post_grow g1 q))
/-- a op b op' c of ints -/
theorem ev_chain {op op' : CmpOp} {r r' : R2} {g g' : D → D → R D} {rc : R D} (ho : OpR X (compareOp op) r) (ho' : OpR X (compareOp op') r') (hs : OpS X.K r g) (hs' : OpS X.K r' g') (ha : EvB X wd ρ a ra) (hb : EvB X wd ρ b rb) (hc : EvB X wd ρ c rc)
    (hm : lastMarks [op, op'] [b, c] = false := by with_unfolding_all rfl) :
    Ev X wd ρ (.Compare a [op, op'] [b, c] pos) (ra.bind fun x => rb.bind fun y => (g x y).bind fun z => (boolR z).bind fun k => if k = true then rc.bind fun w => g' y w else R.ret (.bool false)) := fun F ad σ H Q s q => by
  refine be (pe_chain ho ho' pe_b pe_b pe_b hm) ?_
  rw [wp_bind] at q
  refine ha F ad σ H _ s (wp_mono (fun d q v H1 g1 r1 => ?_) (fun _ _ z => z) q)
  rw [wp_bind] at q
  have s1 := s.grow g1
  refine hb F ad σ H1 _ s1 (wp_mono (fun d2 q v2 H2 g2 r2 => ?_) (fun _ _ z => z.grow g1) q)
  have s2 := s1.grow g2
  rw [wp_bind] at q
  refine hs (Ban F ρ ad) H2 v v2 d d2 _ _ (fun b z => s2.banned z) (r1.stay s1 g2).b r2.b (wp_mono (fun z q v3 H3 sm r3 => ?_) (fun _ _ z => z.grow (g1.trans g2)) q)
  cases z with
  | bool k =>
    refine ⟨k, RepB.bool (dr := none) (.inl r3), ?_⟩
    have g3 := Grow.same (dr := wd.dr) sm
    have s3 := s2.grow g3
    cases k with
    | false => exact iteF (q _ _ (g1.trans (g2.trans g3)) (.bl _))
    | true =>
      have q : wp (fun d => ∀ v H', Grow wd.dr H H' → Rep X.K (Ban F ρ ad) H' v d → Q v H') (XP X wd F ρ ad H) (rc.bind fun w => g' d2 w) := q
      rw [wp_bind] at q
      refine iteT (hc F ad σ H3 _ s3 (wp_mono (fun d4 q v4 H4 g4 r4 => ?_) (fun _ _ z => z.grow (g1.trans (g2.trans g3))) q))
      have s4 := s3.grow g4
      exact hs' (Ban F ρ ad) H4 v2 v4 d2 d4 _ _ (fun b z => s4.banned z) ((r2.stay s2 g3).stay s3 g4).b r4.b (wp_mono (fun (z : D) (q : ∀ (v : V) (H' : Hp), Grow wd.dr H H' → Rep X.K (Ban F ρ ad) H' v z → Q v H') (v5 : V) (H5 : Hp) sm5 r5 => q _ _ (g1.trans (g2.trans (g3.trans (g4.trans (Grow.same sm5))))) r5) (fun _ _ z => z) q)
  | _ => exact q.elim
/-! ### arguments, displays -/
theorem eva_nil : EvA X wd ρ [] (R.ret []) := fun F ad σ H Q s q => ba pa_nil (q _ _ (Grow.refl _ _) .nil)
theorem eva_cons {es : List Expr} {rs : R (List D)} (ha : Ev X wd ρ a ra) (hr : EvA X wd ρ es rs) (hs : starEach (a :: es) X.env = (false, eval a X.env) :: starEach es X.env := by rfl) : EvA X wd ρ (a :: es) (ra.bind fun d => rs.bind fun ds => R.ret (d :: ds)) := fun F ad σ H Q s q => by
  refine ba (pa_cons pe_b pa_b hs) ?_
  rw [wp_bind] at q
  refine ha F ad σ H _ s (wp_mono (fun d q v H1 g1 r1 => ?_) (fun _ _ z => z) q)
  rw [wp_bind] at q
  have s1 := s.grow g1
  refine hr F ad σ H1 _ s1 (wp_mono (fun ds q vs H2 g2 r2 => ?_) (fun _ _ z => z.grow g1) q)
  exact q _ _ (g1.trans g2) (.cons (r1.stay (s1.stays g2)) r2)
theorem ev_tup {es : List Expr} {x1 : Nat} {rs : R (List D)} (h : EvA X wd ρ es rs) : Ev X wd ρ (.Tuple es x1 pos) (rs.bind fun ds => if ds.length ≤ sizeLine then R.ret (.tuple ds) else bad) := fun F ad σ H Q s q => by
  refine be (pe_tup pa_b) ?_
  rw [wp_bind] at q
  refine h F ad σ H _ s (wp_mono (fun ds q vs H1 g1 r1 => ?_) (fun _ _ z => z) q)
  obtain ⟨hz, q⟩ := wp_ite q
  have s1 := s.grow g1
  exact ⟨by rw [r1.length]; exact hz, fun p hp => q _ _ (g1.trans (Grow.same (same_upd hp))) (newtup (fun b z => s1.banned z) hp r1)⟩
theorem evl_lst {es : List Expr} {rs : R (List D)} (h : EvA X wd ρ es rs) : EvL X wd ρ (.List es pos) (rs.bind fun ds => if ds.length ≤ sizeLine then R.ret ds else bad) := fun F ad σ H Q s q => by
  refine be (pe_lst pa_b) ?_
  rw [wp_bind] at q
  refine h F ad σ H _ s (wp_mono (fun ds q vs H1 g1 r1 => ?_) (fun _ _ z => z) q)
  obtain ⟨hz, q⟩ := wp_ite q
  have s1 := s.grow g1
  exact ⟨by rw [r1.length]; exact hz, fun p hp => q _ _ _ (g1.trans (Grow.same (same_upd hp))) (free_grow s g1 hp) upd_same ((r1.ban fun b z => by
    rcases z with z | rfl
    · exact .inl z
    · exact .inr hp).stay (same_stay (same_upd hp)))⟩
end
end Pu
/-! Pg: slices, built-in calls, what is walked, comprehensions, calls of defs. -/
namespace Pu
open PySem PySem.Spec PyProof.Rows L2 R
section
variable {CX : CXT} {k : Nat} {wd : Wd} {N : List Str} {sc : Scope} {X : Cx} {ρ : List Sl} {e a b c : Expr} {rest : List Expr} {pos p : Pos} {ra rb : R D}
/-! ### slices -/
def BO (X : Cx) (e : Option Expr) : TO := fun σ H Q => ∀ (pins : List (Addr × Obj)) (s : Shared), Inv X pins σ H s → wpAny (model X.prog X.w) X.A (evalPart e X.env) (fun u s' => ∃ o H', Inv X pins σ H' s' ∧ IsPart u o ∧ Q o H') X.xe s
theorem po_b {e : Option Expr} : PO X e (BO X e) := ⟨fun pins s _ _ _ I h => h pins s I⟩
theorem bo {e : Option Expr} {t : TO} {σ : L2.St} {H : Hp} {Q : Option Int → Hp → Prop} (h : PO X e t) (q : t σ H Q) : BO X e σ H Q := fun pins s I => h.run pins s σ H Q I q
def EvP (X : Cx) (wd : Wd) (ρ : List Sl) (e : Option Expr) (r : R (Option Int)) : Prop := ∀ (F : Addr → Prop) (ad : Nat → Addr) (σ : L2.St) (H : Hp) (Q : Option Int → Hp → Prop), StOk X.K wd.dr F ρ σ H ad →
  r.wp (fun i => ∀ H', Grow wd.dr H H' → Q i H') (XP X wd F ρ ad H) → BO X e σ H Q
theorem evp_none : EvP X wd ρ none (R.ret none) := fun F ad σ H Q s q => bo po_none (q _ (Grow.refl _ _))
theorem evp_some (ha : EvB X wd ρ a ra) : EvP X wd ρ (some a) (ra.bind fun x => partR x) := fun F ad σ H Q s q => by
  refine bo (po_some pe_b) ?_
  rw [wp_bind] at q
  refine ha F ad σ H _ s (wp_mono (fun d q v H1 g1 r1 => ?_) (fun _ _ z => z) q)
  cases d with
  | int i => exact ⟨i, r1.int, q _ g1⟩
  | _ => exact q.elim
theorem cut_reps {K : PySem.W.Frag} {B : Addr → Prop} {H : Hp} {vs : List V} {ds : List D} (r : Reps K B H vs ds) (lo hi : Option Int) : Reps K B H (cutV vs lo hi) (cutD ds lo hi) := by
  unfold cutV cutD
  rw [r.length]
  exact (r.drop _).take _
theorem ev_slice {lo hi : Option Expr} {p2 : Pos} {rl rh : R (Option Int)} (ha : EvB X wd ρ a ra) (hl : EvP X wd ρ lo rl) (hh : EvP X wd ρ hi rh) : Ev X wd ρ (.Subscript a (.Slice lo hi none p2) pos) (ra.bind fun x => rl.bind fun l => rh.bind fun h => sliceR x l h) := fun F ad σ H Q s q => by
  refine be (pe_slice (SlR.or sl_list (SlR.or sl_tupA sl_str)) pe_b po_b po_b) ?_
  rw [wp_bind] at q
  refine ha F ad σ H _ s (wp_mono (fun d q v H1 g1 r1 => ?_) (fun _ _ z => z) q)
  rw [wp_bind] at q
  have s1 := s.grow g1
  refine hl F ad σ H1 _ s1 (wp_mono (fun l q H2 g2 => ?_) (fun _ _ z => z.grow g1) q)
  rw [wp_bind] at q
  have s2 := s1.grow g2
  refine hh F ad σ H2 _ s2 (wp_mono (fun h q H3 g3 => ?_) (fun _ _ z => z.grow (g1.trans g2)) q)
  have s3 := s2.grow g3
  have r3 := (r1.stay s1 g2).stay s2 g3
  have g := g1.trans (g2.trans g3)
  have nb : ∀ b, Ban F ρ ad b → Bd H3 b := fun b z => s3.banned z
  cases d with
  | list ds =>
    obtain ⟨a1, vs, rfl, h1, rr⟩ := r3.list
    exact .inl ⟨a1, vs, rfl, .inl h1, fun p hp => q _ _ (g.trans (Grow.same (same_upd hp))) (newlst nb hp (cut_reps rr l h))⟩
  | tuple ds =>
    obtain ⟨a1, vs, rfl, h1, rr⟩ := r3.tuple
    refine .inr (.inl ⟨a1, vs, rfl, h1.sq, fun z => ?_, fun z p hp => q _ _ (g.trans (Grow.same (same_upd hp))) (newtup nb hp (cut_reps rr l h))⟩)
    have e : cutD ds l h = ds := by
      unfold cutD
      rw [← rr.length, z.1, z.2, List.drop_zero, Nat.sub_zero, rr.length]
      exact List.take_length
    refine q _ _ g ?_
    rw [e]
    exact .tup h1 rr
  | str z =>
    obtain ⟨hz, q⟩ := wp_ite q
    exact .inr (.inr ⟨z, r3.str, hz, q _ _ g (.str _)⟩)
  | _ => exact q.elim
/-! ### built-in calls -/
def CalS (K : PySem.W.Frag) (r : List V → Hp → VK → Prop) (g : D → R D) : Prop := ∀ (B : Addr → Prop) (H : Hp) (x : V) (d : D) (Q : VK) (E : Nat → D → Prop), (∀ b, B b → Bd H b) → RepB K none B H x d →
  (g d).wp (fun z => ∀ v H', Same H H' → Rep K B H' v z → Q v H') E → r [x] H Q
def CalS2 (K : PySem.W.Frag) (r : List V → Hp → VK → Prop) (g : D → D → R D) : Prop := ∀ (B : Addr → Prop) (H : Hp) (x y : V) (d e : D) (Q : VK) (E : Nat → D → Prop), (∀ b, B b → Bd H b) → RepB K none B H x d → RepB K none B H y e →
  (g d e).wp (fun z => ∀ v H', Same H H' → Rep K B H' v z → Q v H') E → r [x, y] H Q
theorem call_core {f : Expr} {r : List V → Hp → VK → Prop} {g : D → R D} (hp : PE X (.Call f [a] [] pos) (tCB r (tCons (BE X a) tNil))) (hs : CalS X.K r g) (ha : EvB X wd ρ a ra) : Ev X wd ρ (.Call f [a] [] pos) (ra.bind fun x => g x) := fun F ad σ H Q s q => by
  refine be hp ?_
  rw [wp_bind] at q
  refine ha F ad σ H _ s (wp_mono (fun d q v H1 g1 r1 => ?_) (fun _ _ z => z) q)
  have s1 := s.grow g1
  exact hs (Ban F ρ ad) H1 v d Q _ (fun b z => s1.banned z) r1.b (wp_mono (fun z q v H' sm r => q v H' (g1.trans (Grow.same sm)) r) (fun _ _ z => z) q)
theorem call_core2 {f : Expr} {r : List V → Hp → VK → Prop} {g : D → D → R D} (hp : PE X (.Call f [a, b] [] pos) (tCB r (tCons (BE X a) (tCons (BE X b) tNil)))) (hs : CalS2 X.K r g) (ha : EvB X wd ρ a ra) (hb : EvB X wd ρ b rb) : Ev X wd ρ (.Call f [a, b] [] pos) (ra.bind fun x => rb.bind fun y => g x y) := fun F ad σ H Q s q => by
  refine be hp ?_
  rw [wp_bind] at q
  refine ha F ad σ H _ s (wp_mono (fun d q v H1 g1 r1 => ?_) (fun _ _ z => z) q)
  rw [wp_bind] at q
  have s1 := s.grow g1
  refine hb F ad σ H1 _ s1 (wp_mono (fun d2 q v2 H2 g2 r2 => ?_) (fun _ _ z => z.grow g1) q)
  have s2 := s1.grow g2
  exact hs (Ban F ρ ad) H2 v v2 d d2 Q _ (fun b z => s2.banned z) (r1.stay s1 g2).b r2.b (wp_mono (fun z q v H' sm r => q v H' (g1.trans (g2.trans (Grow.same sm))) r) (fun _ _ z => z) q)
/-- the arguments' form: no star -/
def Plain (X : Cx) (a : Expr) : Prop := ∀ es, starEach (a :: es) X.env = (false, eval a X.env) :: starEach es X.env
theorem ev_b1 (c : Cw CX k wd N sc X) {x : Str} {id : String} {r : List V → Hp → VK → Prop} {g : D → R D} (hc : CallR X (.builtin id) r) (hs : CalS X.K r g) (hg : glB sc x = true) (hm : X.mg x = none) (hv : bootBuiltins x = some (.builtin id)) (ha : EvB X wd ρ a ra)
    (he : Plain X a := by exact fun _ => rfl) : Ev X wd ρ (.Call (.Name x p) [a] [] pos) (ra.bind fun x => g x) :=
  call_core (pe_callB hc (c.gl hg).1 hm hv (pa_cons pe_b pa_nil (he [])) (c.gl hg).2.2 (c.gl hg).2.1 (he []) rfl) hs ha
theorem ev_t1 (c : Cw CX k wd N sc X) {x : Str} {id : String} {r : List V → Hp → VK → Prop} {g : D → R D} (hc : CallR X (.type id) r) (hs : CalS X.K r g) (hg : glB sc x = true) (hm : X.mg x = none) (hv : bootBuiltins x = some (.type id)) (ha : EvB X wd ρ a ra)
    (he : Plain X a := by exact fun _ => rfl) : Ev X wd ρ (.Call (.Name x p) [a] [] pos) (ra.bind fun x => g x) :=
  call_core (pe_callTy hc (c.gl hg).1 hm hv (pa_cons pe_b pa_nil (he [])) (c.gl hg).2.2 (c.gl hg).2.1 (he []) rfl) hs ha
theorem ev_b2 (c : Cw CX k wd N sc X) {x : Str} {id : String} {r : List V → Hp → VK → Prop} {g : D → D → R D} (hc : CallR X (.builtin id) r) (hs : CalS2 X.K r g) (hg : glB sc x = true) (hm : X.mg x = none) (hv : bootBuiltins x = some (.builtin id)) (ha : EvB X wd ρ a ra) (hb : EvB X wd ρ b rb)
    (he : Plain X a := by exact fun _ => rfl) (he2 : Plain X b := by exact fun _ => rfl) : Ev X wd ρ (.Call (.Name x p) [a, b] [] pos) (ra.bind fun x => rb.bind fun y => g x y) :=
  call_core2 (pe_callB hc (c.gl hg).1 hm hv (pa_cons pe_b (pa_cons pe_b pa_nil (he2 [])) (he [b])) (c.gl hg).2.2 (c.gl hg).2.1 (he [b]) (by rw [he2 []]; rfl)) hs ha hb
end
section
variable {K : PySem.W.Frag}
theorem calS_len : CalS K (fun xs H Q => ∃ x n, xs = [x] ∧ LenV K x H n ∧ Q (.int n) H) lenR := by
  intro B H x d Q E nb r q
  cases d with
  | str z =>
    obtain ⟨h, q⟩ := wp_ite q
    exact ⟨x, z.length, rfl, by rw [r.str]; exact ⟨h, rfl⟩, q _ _ (Same.refl _) (.int _)⟩
  | list ds =>
    obtain ⟨a, vs, rfl, e, rr⟩ := r.list
    exact ⟨_, ds.length, rfl, .inl ⟨vs, .inl e, rr.length.symm⟩, q _ _ (Same.refl _) (.int _)⟩
  | tuple ds =>
    obtain ⟨a, vs, rfl, e, rr⟩ := r.tuple
    exact ⟨_, ds.length, rfl, .inr ⟨vs, e.sq, rr.length.symm⟩, q _ _ (Same.refl _) (.int _)⟩
  | _ => exact q.elim
theorem calS_tuple : CalS K (fun xs H Q => ∃ p ys, xs = [.ref p] ∧ ((SqL K H p ys ∧ ∀ l, H l = none → Q (.ref l) (upd H l (.tup ys))) ∨ (SqT K H p ys ∧ Q (.ref p) H))) tupleR := by
  intro B H x d Q E nb r q
  cases d with
  | list ds =>
    obtain ⟨a, vs, rfl, e, rr⟩ := r.list
    exact ⟨a, vs, rfl, .inl ⟨.inl e, fun p hp => q _ _ (same_upd hp) (newtup nb hp rr)⟩⟩
  | tuple ds =>
    obtain ⟨a, vs, rfl, e, rr⟩ := r.tuple
    exact ⟨a, vs, rfl, .inr ⟨e.sq, q _ _ (Same.refl _) (.tup e rr)⟩⟩
  | _ => exact q.elim
theorem calS_list : CalS K (fun xs H Q => ∃ p ys, xs = [.ref p] ∧ (SqL K H p ys ∨ SqT K H p ys) ∧ ∀ l, H l = none → Q (.ref l) (upd H l (.lst ys))) listR := by
  intro B H x d Q E nb r q
  cases d with
  | list ds =>
    obtain ⟨a, vs, rfl, e, rr⟩ := r.list
    exact ⟨a, vs, rfl, .inl (.inl e), fun p hp => q _ _ (same_upd hp) (newlst nb hp rr)⟩
  | tuple ds =>
    obtain ⟨a, vs, rfl, e, rr⟩ := r.tuple
    exact ⟨a, vs, rfl, .inr e.sq, fun p hp => q _ _ (same_upd hp) (newlst nb hp rr)⟩
  | _ => exact q.elim
theorem calS_abs : CalS K (fun xs H Q => ∃ i, xs = [.int i] ∧ Q (.int (if i < 0 then -i else i)) H) absR := by
  intro B H x d Q E nb r q
  cases d with
  | int i => exact ⟨i, by rw [r.int], q _ _ (Same.refl _) (.int _)⟩
  | _ => exact q.elim
theorem calS_int : CalS K (fun xs H Q => (∃ i, xs = [.int i] ∧ Q (.int i) H) ∨ ∃ k, xs = [.bl k] ∧ Q (.int (if k then 1 else 0)) H) intR := by
  intro B H x d Q E nb r q
  cases d with
  | int i => exact .inl ⟨i, by rw [r.int], q _ _ (Same.refl _) (.int _)⟩
  | bool i => exact .inr ⟨i, by rw [r.bool], q _ _ (Same.refl _) (.int _)⟩
  | _ => exact q.elim
theorem calS_max : CalS2 K (fun xs H Q => ∃ i j, xs = [.int i, .int j] ∧ Q (.int (if j > i then j else i)) H) maxR := by
  intro B H x y d e Q E nb r r' q
  cases d with
  | int i =>
    cases e with
    | int j => exact ⟨i, j, by rw [r.int, r'.int], q _ _ (Same.refl _) (.int _)⟩
    | _ => exact q.elim
  | _ => cases e <;> exact q.elim
theorem calS_min : CalS2 K (fun xs H Q => ∃ i j, xs = [.int i, .int j] ∧ Q (.int (if j < i then j else i)) H) minR := by
  intro B H x y d e Q E nb r r' q
  cases d with
  | int i =>
    cases e with
    | int j => exact ⟨i, j, by rw [r.int, r'.int], q _ _ (Same.refl _) (.int _)⟩
    | _ => exact q.elim
  | _ => cases e <;> exact q.elim
theorem reps_ints {B : Addr → Prop} {H : Hp} : ∀ {ds : List D} {vs : List V} {ns : List Int}, Reps K B H vs ds → allSome intOf ds = some ns → vs = ns.map V.int
  | [], _, _, h, e => by cases h; cases e; rfl
  | d :: ds, _, ns, h, e => by
    cases h with
    | cons a b =>
      unfold allSome at e
      cases d with
      | int i =>
        cases e2 : allSome intOf ds with
        | none => rw [e2] at e; cases e
        | some ms =>
          rw [e2] at e
          cases e
          cases a
          rw [reps_ints b e2]
          rfl
      | _ => cases e
theorem reps_bools {B : Addr → Prop} {H : Hp} : ∀ {ds : List D} {vs : List V} {ns : List Bool}, Reps K B H vs ds → allSome boolOf ds = some ns → vs = ns.map V.bl
  | [], _, _, h, e => by cases h; cases e; rfl
  | d :: ds, _, ns, h, e => by
    cases h with
    | cons a b =>
      unfold allSome at e
      cases d with
      | bool i =>
        cases e2 : allSome boolOf ds with
        | none => rw [e2] at e; cases e
        | some ms =>
          rw [e2] at e
          cases e
          cases a
          rw [reps_bools b e2]
          rfl
      | _ => cases e
/-- sum(xs) of a list or a tuple of ints -/
def rSumT (K : PySem.W.Frag) : List V → Hp → VK → Prop := fun vs H Q => ∃ (a : Addr) (ns : List Int), vs = [V.ref a] ∧ (SqL K H a (ns.map V.int) ∨ SqT K H a (ns.map V.int)) ∧ Q (.int ns.sum) H
theorem cr_sumT {X : Cx} (hc : X.calm = true) : CallR X (.builtin "sum") (rSumT X.K) := by
  intro pins s σ H vs us Q I r h
  obtain ⟨a, ns, rfl, hs | hs, q⟩ := h
  · exact cr_sum hc pins s σ H _ us Q I r ⟨a, ns, rfl, hs, q⟩
  · obtain ⟨its, rv, hl, _⟩ := I.tuple hs
    rw [Vals.ref1 r]
    obtain ⟨xs, e⟩ := rv.ints.allInts.items
    have hn : numsOf (intItems xs).toList = ns := by rw [← e]; exact rv.ints.numsOf
    rw [nums_intItems] at hn
    rw [e] at hl
    refine PySem.W.ktm_sumG (I.ok.hd hc) hl fun h' tk t' hk => ⟨.int _, H, I.kept hk, ⟨_, rfl⟩, ?_⟩
    rw [preSum_eq, List.take_of_length_le (by simp), hn]
    exact q
theorem calS_sum : CalS K (rSumT K) sumR := by
  intro B H x d Q E nb r q
  cases d with
  | list ds =>
    obtain ⟨a, vs, rfl, e, rr⟩ := r.list
    unfold sumR at q
    cases e2 : allSome intOf ds with
    | none => simp only [e2] at q; exact q.elim
    | some ns =>
      simp only [e2] at q
      exact ⟨a, ns, rfl, .inl (by rw [← reps_ints rr e2]; exact .inl e), q _ _ (Same.refl _) (.int _)⟩
  | tuple ds =>
    obtain ⟨a, vs, rfl, e, rr⟩ := r.tuple
    unfold sumR at q
    cases e2 : allSome intOf ds with
    | none => simp only [e2] at q; exact q.elim
    | some ns =>
      simp only [e2] at q
      exact ⟨a, ns, rfl, .inr (by rw [← reps_ints rr e2]; exact e.sq), q _ _ (Same.refl _) (.int _)⟩
  | _ => exact q.elim
theorem calS_all : CalS K (rAll K) allR := by
  intro B H x d Q E nb r q
  cases d with
  | list ds =>
    obtain ⟨a, vs, rfl, e, rr⟩ := r.list
    unfold allR at q
    cases e2 : allSome boolOf ds with
    | none => simp only [e2] at q; exact q.elim
    | some ns =>
      simp only [e2] at q
      exact ⟨a, ns, rfl, by rw [← reps_bools rr e2]; exact .inl e, q _ _ (Same.refl _) (.bl _)⟩
  | _ => exact q.elim
theorem calS_any : CalS K (rAny K) anyR := by
  intro B H x d Q E nb r q
  cases d with
  | list ds =>
    obtain ⟨a, vs, rfl, e, rr⟩ := r.list
    unfold anyR at q
    cases e2 : allSome boolOf ds with
    | none => simp only [e2] at q; exact q.elim
    | some ns =>
      simp only [e2] at q
      exact ⟨a, ns, rfl, by rw [← reps_bools rr e2]; exact .inl e, q _ _ (Same.refl _) (.bl _)⟩
  | _ => exact q.elim
theorem tyx_of {B : Addr → Prop} {H : Hp} {x : V} {d : D} (r : RepB K dr B H x d) : TyX K H x (.type (tyN d)) := by
  cases d with
  | none => rw [r.non]; exact .base .non
  | bool b => rw [r.bool]; exact .base (.bl _)
  | int b => rw [r.int]; exact .base (.int _)
  | str b => rw [r.str]; exact .base (.str _)
  | list ds =>
    obtain ⟨a, vs, rfl, e, _⟩ := r.list
    rcases e with e | ⟨o, e⟩
    · exact .base (.lst e)
    · exact .base (.frz e)
  | tuple ds =>
    obtain ⟨a, vs, rfl, e, _⟩ := r.tuple
    rcases e.sq with (e | ⟨o, e⟩) | ⟨o, _, _, e, c, _⟩
    · exact .base (.tup e)
    · exact .fTuple e
    · exact .kTuple e c
  | dict _ => exact r.nodict.elim
end
section
variable {CX : CXT} {k : Nat} {wd : Wd} {N : List Str} {sc : Scope} {X : Cx} {ρ : List Sl} {e a b c : Expr} {rest : List Expr} {pos p : Pos} {ra rb : R D}
/-- isinstance(a, T), T a built-in type -/
theorem ev_isi (c : Cw CX k wd N sc X) {T : String} {y : Str} {py : Pos} (hg : glB sc "isinstance" = true) (hm : X.mg "isinstance" = none) (hv : bootBuiltins "isinstance" = some (.builtin "isinstance")) (gy : glB sc y = true) (my : X.mg y = none) (vy : bootBuiltins y = some (.type T)) (ha : EvB X wd ρ a ra)
    (he : Plain X a := by exact fun _ => rfl) : Ev X wd ρ (.Call (.Name "isinstance" p) [a, .Name y py] [] pos) (ra.bind fun x => isiR T x) := fun F ad σ H Q s q => by
  refine be (pe_callB call_isi (c.gl hg).1 hm hv (pa_cons pe_b (pa_cons (pe_bltn (v := .ty T) (c.gl gy).1 my vy rfl (c.gl gy).2.2 (c.gl gy).2.1) pa_nil rfl) (he _)) (c.gl hg).2.2 (c.gl hg).2.1 (he _) rfl) ?_
  rw [wp_bind] at q
  refine ha F ad σ H _ s (wp_mono (fun d q v H1 g1 r1 => ?_) (fun _ _ z => z) q)
  unfold isiR at q
  cases e : kitB (tyN d) T with
  | none => simp only [e] at q; exact q.elim
  | some b =>
    simp only [e] at q
    exact ⟨v, _, _, _, b, rfl, .ty T, tyx_of r1, kit_ty e, q _ _ g1 (.bl _)⟩
/-! ### what is walked -/
/-- J yields ds, as long as the heap moves by S; new places may be banned besides -/
def ItOk (S : (Addr → Prop) → Hp → Hp → Prop) (K : PySem.W.Frag) (B : Addr → Prop) (J : It) (H0 : Hp) (ds : List D) : Prop :=
  ∀ B' : Addr → Prop, (∀ b, B' b → B b ∨ H0 b = none) → (∀ b, B b → B' b) → ∃ Vd : Hp → Prop, Vd H0 ∧ (∀ H H', Vd H → S B' H H' → Vd H') ∧ (∀ H i, Vd H → i < ds.length → J.go i H) ∧
    (∀ H i x H' d, Vd H → J.yld i H x H' → ds[i]? = some d → Same H H' ∧ Rep K B' H' x d) ∧ (∀ H, Vd H → J.stop ds.length H)
theorem ItOk.mono {S S' : (Addr → Prop) → Hp → Hp → Prop} {K : PySem.W.Frag} {B : Addr → Prop} {J : It} {H0 : Hp} {ds : List D} (h : ItOk S K B J H0 ds) (hs : ∀ B' H H', (∀ b, B b → B' b) → S' B' H H' → S B' H H') : ItOk S' K B J H0 ds := by
  intro B' hb hB
  obtain ⟨Vd, h0, h1, h2, h3, h4⟩ := h B' hb hB
  exact ⟨Vd, h0, fun H H' v z => h1 H H' v (hs _ _ _ hB z), h2, h3, h4⟩
def EvI (X : Cx) (wd : Wd) (ρ : List Sl) (tg e : Expr) (r : R (List D)) : Prop := ∀ (F : Addr → Prop) (ad : Nat → Addr) (σ : L2.St) (H : Hp) (Rq : It → Hp → Prop), StOk X.K wd.dr F ρ σ H ad →
  r.wp (fun ds => ∀ J H', Grow wd.dr H H' → ItOk Stay X.K (Ban F ρ ad) J H' ds → Rq J H') (XP X wd F ρ ad H) → BI X tg e σ H Rq
def EvJ (X : Cx) (wd : Wd) (ρ : List Sl) (tg e : Expr) (r : R (List D)) : Prop := ∀ (F : Addr → Prop) (ad : Nat → Addr) (σ : L2.St) (H : Hp) (Rq : It → Hp → Prop), StOk X.K wd.dr F ρ σ H ad →
  r.wp (fun ds => ∀ J H', Grow wd.dr H H' → ItOk (fun _ => Grow wd.dr) X.K (Ban F ρ ad) J H' ds → Rq J H') (XP X wd F ρ ad H) → BI X tg e σ H Rq
theorem EvI.j {tg : Expr} {r : R (List D)} (h : EvI X wd ρ tg a r) : EvJ X wd ρ tg a r := fun F ad σ H Rq s q =>
  h F ad σ H Rq s (wp_mono (fun ds z J H' g i => z J H' g (i.mono fun B' H1 H2 hB g2 b o e nb => g2.keep b o e fun z => nb (hB _ (s.drF z)))) (fun _ _ z => z) q)
/-- a list, a tuple or a text, by values -/
theorem bi_seq {tg : Expr} {σ : L2.St} {H : Hp} {Rq : It → Hp → Prop}
    (h : BE X a σ H fun x H1 => (∃ l xs, x = .ref l ∧ SqL X.K H1 l xs ∧ Rq (Itl X.K l) H1) ∨ (∃ l xs, x = .ref l ∧ SqT X.K H1 l xs ∧ Rq (Itt X.K l) H1) ∨ ∃ z, x = .str z ∧ Rq (Its z) H1) : BI X tg a σ H Rq := by
  intro pins s I
  refine thn (h pins s I) fun v s1 ⟨x, H1, I1, r1, q1⟩ => ?_
  rcases q1 with ⟨l, xs, rfl, hq, q⟩ | ⟨l, xs, rfl, hq, q⟩ | ⟨z, rfl, q⟩
  · cases r1
    obtain ⟨its, rv, p, hz⟩ := I1.list hq
    refine wpAny_pyIter_list p.isList ?_
    refine ⟨s1.heap.objs.size, [s1.heap.objs.size], _, _, H1, rfl, I1.kept (t' := s1.toks) fun b o e => Heap.get?_push_of_some _ e, turn_list l _, ⟨_, Heap.get?_push_size _ rfl, rfl, rfl⟩, fun b hb => ?_, q⟩
    have e : b = s1.heap.objs.size := by simpa using hb
    subst e
    exact I1.fpOk (Nat.le_refl _) (I1.hok.fresh (Nat.le_refl _))
  · cases r1
    obtain ⟨its, rv, p, hz⟩ := I1.tuple hq
    refine wpAny_pyIter_tuple (show s1.heap.IsTuple l its.toArray from p) ?_
    refine ⟨s1.heap.objs.size, [s1.heap.objs.size], _, _, H1, rfl, I1.kept (t' := s1.toks) fun b o e => Heap.get?_push_of_some _ e, turn_tuple l _, ⟨_, Heap.get?_push_size _ rfl, rfl, rfl⟩, fun b hb => ?_, q⟩
    have e : b = s1.heap.objs.size := by simpa using hb
    subst e
    exact I1.fpOk (Nat.le_refl _) (I1.hok.fresh (Nat.le_refl _))
  · obtain ⟨t, rfl⟩ := r1
    cases ha : z.cps.all (· < 128)
    · exact wpAny_pyIter_wide ha (pi_one (tk := s1.toks) I1 _ (turn_str _ z t "str_iterator" (.inr rfl)) ⟨_, Heap.get?_push_size _ rfl, rfl, rfl⟩ q)
    · exact wpAny_pyIter_ascii ha (pi_one (tk := s1.toks) I1 _ (turn_str _ z t "str_ascii_iterator" (.inl rfl)) ⟨_, Heap.get?_push_size _ rfl, rfl, rfl⟩ q)
theorem sqL_inj {K : PySem.W.Frag} {H : Hp} {l : Addr} {xs ys : List V} (h : H l = some (.lst xs)) (hn : K.lookup l = none) (q : SqL K H l ys) : ys = xs := by
  rcases q with (q | ⟨o, q⟩) | ⟨o, _, _, q, _⟩
  · rw [h] at q; cases q; rfl
  · rw [h] at q; cases q
  · rw [hn] at q; cases q
theorem itl_ok {K : PySem.W.Frag} {B : Addr → Prop} {H : Hp} {l : Addr} {vs : List V} {ds : List D} {S : (Addr → Prop) → Hp → Hp → Prop} (e : Rd H l (.lst vs)) (r : Reps K B H vs ds)
    (h1 : ∀ B' : Addr → Prop, (∀ b, B' b → B b ∨ H b = none) → ∀ H1 H2, Rd H1 l (.lst vs) → S B' H1 H2 → Rd H2 l (.lst vs)) (h2 : ∀ (B' : Addr → Prop) (H1 H2 : Hp), (∀ b, B b → B' b) → S B' H1 H2 → Stay B' H1 H2) :
    ItOk S K B (Itl K l) H ds := by
  intro B' hb hB
  refine ⟨fun H => Rd H l (.lst vs) ∧ Reps K B' H vs ds, ⟨e, r.ban hb⟩, fun H1 H2 q s => ⟨h1 B' hb _ _ q.1 s, q.2.stay (h2 _ _ _ hB s)⟩, fun H1 i q hi => ?_, fun H1 i x H2 d q y ed => ?_, fun H1 q => ⟨vs, .inl q.1, by rw [q.2.length]; exact Nat.le_refl _⟩⟩
  · have hi' : i < vs.length := by rw [q.2.length]; exact hi
    exact ⟨vs, vs[i], .inl q.1, List.getElem?_eq_getElem hi'⟩
  · obtain ⟨rfl, y⟩ := y
    obtain ⟨v, e1, rv⟩ := q.2.get ed
    have e2 := y vs (.inl q.1)
    rw [e1] at e2
    cases e2
    exact ⟨Same.refl _, rv⟩
theorem itt_ok {K : PySem.W.Frag} {B : Addr → Prop} {H : Hp} {l : Addr} {vs : List V} {ds : List D} {S : (Addr → Prop) → Hp → Hp → Prop} (e : TpS K B H l vs) (r : Reps K B H vs ds)
    (h2 : ∀ (B' : Addr → Prop) (H1 H2 : Hp), (∀ b, B b → B' b) → S B' H1 H2 → Stay B' H1 H2) : ItOk S K B (Itt K l) H ds := by
  intro B' hb hB
  refine ⟨fun H => TpS K B' H l vs ∧ Reps K B' H vs ds, ⟨e.ban hb, r.ban hb⟩, fun H1 H2 q s => ⟨q.1.stay (h2 _ _ _ hB s), q.2.stay (h2 _ _ _ hB s)⟩, fun H1 i q hi => ?_, fun H1 i x H2 d q y ed => ?_, fun H1 q => ⟨vs, q.1.sq, by rw [q.2.length]; exact Nat.le_refl _⟩⟩
  · have hi' : i < vs.length := by rw [q.2.length]; exact hi
    exact ⟨vs, vs[i], q.1.sq, List.getElem?_eq_getElem hi'⟩
  · obtain ⟨rfl, y⟩ := y
    obtain ⟨v, e1, rv⟩ := q.2.get ed
    have e2 := y vs q.1.sq
    rw [e1] at e2
    cases e2
    exact ⟨Same.refl _, rv⟩
theorem its_ok {K : PySem.W.Frag} {B : Addr → Prop} {H : Hp} {z : Str} {S : (Addr → Prop) → Hp → Hp → Prop} : ItOk S K B (Its z) H (z.cps.toList.map fun c => PyData.str ⟨#[c]⟩) := by
  intro B' hb hB
  refine ⟨fun _ => True, trivial, fun _ _ _ _ => trivial, fun H1 i _ hi => by show i < z.cps.size; simpa using hi, fun H1 i x H2 d _ y ed => ?_, fun H1 _ => by show z.cps.size ≤ _; simp⟩
  obtain ⟨rfl, c, ec, rfl⟩ := y
  rw [List.getElem?_map] at ed
  have ec' : z.cps.toList[i]? = some c := by rw [Array.getElem?_toList]; exact ec
  rw [ec'] at ed
  cases ed
  exact ⟨Same.refl _, .str _⟩
theorem itr_ok {K : PySem.W.Frag} {B : Addr → Prop} {H : Hp} {lo : Int} {n : Nat} {S : (Addr → Prop) → Hp → Hp → Prop} : ItOk S K B (Itr lo n) H (rangeL lo n) := by
  have hl : (rangeL lo n).length = n := by unfold rangeL; rw [List.length_map, List.length_range]
  intro B' hb hB
  refine ⟨fun _ => True, trivial, fun _ _ _ _ => trivial, fun H1 i _ hi => by rw [hl] at hi; exact hi, fun H1 i x H2 d _ y ed => ?_, fun H1 _ => by rw [hl]; exact Nat.le_refl _⟩
  obtain ⟨rfl, rfl⟩ := y
  unfold rangeL at ed
  rw [List.getElem?_map] at ed
  by_cases hi : i < n
  · rw [List.getElem?_range hi] at ed
    cases ed
    exact ⟨Same.refl _, .int _⟩
  · rw [List.getElem?_eq_none (by rw [List.length_range]; omega)] at ed
    cases ed
theorem evi_seq {tg : Expr} (ha : Ev X wd ρ a ra) : EvI X wd ρ tg a (ra.bind fun x => itemsR x) := fun F ad σ H Rq s q => by
  refine bi_seq ?_
  rw [wp_bind] at q
  refine ha F ad σ H _ s (wp_mono (fun d q v H1 g1 r1 => ?_) (fun _ _ z => z) q)
  have s1 := s.grow g1
  cases d with
  | list ds =>
    cases r1 with
    | @lst l vs _ e nb rr =>
      refine .inl ⟨l, vs, rfl, .inl e, q _ _ g1 (itl_ok e rr (fun B' hb H2 H3 e2 st => ?_) fun _ _ _ _ st => st)⟩
      have nb' : ¬ B' l := fun z => by
        rcases hb _ z with z | z
        · exact nb z
        · rcases e with e | ⟨o, e⟩ <;> (rw [e] at z; cases z)
      exact e2.imp (fun z => st _ _ z nb') fun ⟨o, z⟩ => ⟨o, st _ _ z nb'⟩
  | tuple ds =>
    cases r1 with
    | @tup l vs _ e rr => exact .inr (.inl ⟨l, vs, rfl, e.sq, q _ _ g1 (itt_ok e rr fun _ _ _ _ st => st)⟩)
  | str z =>
    cases r1
    exact .inr (.inr ⟨z, rfl, q _ _ g1 its_ok⟩)
  | _ => exact q.elim
theorem evj_seq {tg : Expr} (ha : EvB X wd ρ a ra) : EvJ X wd ρ tg a (ra.bind fun x => itemsR x) := fun F ad σ H Rq s q => by
  refine bi_seq ?_
  rw [wp_bind] at q
  refine ha F ad σ H _ s (wp_mono (fun d q v H1 g1 r1 => ?_) (fun _ _ z => z) q)
  have s1 := s.grow g1
  have gs : ∀ (B' : Addr → Prop) (H2 H3 : Hp), (∀ b, Ban F ρ ad b → B' b) → Grow wd.dr H2 H3 → Stay B' H2 H3 := fun B' H2 H3 hB g2 b o e nb => g2.keep b o e fun z => nb (hB _ (s.drF z))
  cases d with
  | list ds =>
    obtain ⟨l, vs, rfl, e, rr, nd⟩ := r1.listN s1
    refine .inl ⟨l, vs, rfl, .inl e, q _ _ g1 (itl_ok e rr (fun B' hb H2 H3 e2 g2 => ?_) gs)⟩
    exact e2.imp (fun z => g2.keep _ _ z nd) fun ⟨o, z⟩ => ⟨o, g2.keep _ _ z nd⟩
  | tuple ds =>
    obtain ⟨l, vs, rfl, e, rr⟩ := r1.tuple
    exact .inr (.inl ⟨l, vs, rfl, e.sq, q _ _ g1 (itt_ok e rr gs)⟩)
  | str z =>
    rw [r1.str]
    exact .inr (.inr ⟨z, rfl, q _ _ g1 its_ok⟩)
  | _ => exact q.elim
theorem evi_rng1 (c : Cw CX k wd N sc X) {tg : Expr} (hg : glB sc "range" = true) (hm : X.mg "range" = none) (ha : EvB X wd ρ a ra) (he : Plain X a := by exact fun _ => rfl) : EvI X wd ρ tg (.Call (.Name "range" p) [a] [] pos) (ra.bind fun x => rng1R x) := fun F ad σ H Rq s q => by
  refine bi (pi_range1 (c.gl hg).1 hm (pa_cons pe_b pa_nil (he [])) (he [])) ?_
  rw [wp_bind] at q
  refine ha F ad σ H _ s (wp_mono (fun d q v H1 g1 r1 => ?_) (fun _ _ z => z) q)
  cases d with
  | int j =>
    obtain ⟨⟨h1, h2⟩, q⟩ := wp_ite q
    exact ⟨j, by rw [r1.int], h1, h2, q _ _ g1 itr_ok⟩
  | _ => exact q.elim
theorem evi_rng2 (c : Cw CX k wd N sc X) {tg : Expr} (hg : glB sc "range" = true) (hm : X.mg "range" = none) (ha : EvB X wd ρ a ra) (hb : EvB X wd ρ b rb) (he : Plain X a := by exact fun _ => rfl) (he2 : Plain X b := by exact fun _ => rfl) : EvI X wd ρ tg (.Call (.Name "range" p) [a, b] [] pos) (ra.bind fun x => rb.bind fun y => rng2R x y) := fun F ad σ H Rq s q => by
  refine bi (pi_range2 (c.gl hg).1 hm (pa_cons pe_b (pa_cons pe_b pa_nil (he2 [])) (he [b])) (by rw [he [b], he2 []]; rfl) (he2 [])) ?_
  rw [wp_bind] at q
  refine ha F ad σ H _ s (wp_mono (fun d q v H1 g1 r1 => ?_) (fun _ _ z => z) q)
  rw [wp_bind] at q
  have s1 := s.grow g1
  refine hb F ad σ H1 _ s1 (wp_mono (fun d2 q v2 H2 g2 r2 => ?_) (fun _ _ z => z.grow g1) q)
  cases d with
  | int i =>
    cases d2 with
    | int j =>
      obtain ⟨h1, q⟩ := wp_ite q
      exact ⟨i, j, by rw [r1.int, r2.int], h1, q _ _ (g1.trans g2) itr_ok⟩
    | _ => exact q.elim
  | _ => cases d2 <;> exact q.elim
end
end Pu
/-! Ph: targets, comprehensions, calls of defs. -/
namespace Pu
open PySem PySem.Spec PyProof.Rows L2 R
/-! ### slots are set -/
section
variable {K : PySem.W.Frag} {dr : Drs} {F : Addr → Prop} {ρ ρ' : List Sl} {σ σ' : L2.St} {H H' : Hp} {ad ad' : Nat → Addr}
theorem own_set {ρ : List Sl} {i j : Nat} {d : D} (h : Own (ρ.set i (.d d)) j) : Own ρ j ∧ j ≠ i := by
  obtain ⟨s, e, q⟩ := h
  by_cases hj : j = i
  · subst hj
    by_cases hl : j < ρ.length
    · rw [List.getElem?_set_self hl] at e; cases e; cases q
    · rw [List.getElem?_eq_none (by simpa using hl)] at e; cases e
  · rw [List.getElem?_set_ne (Ne.symm hj)] at e
    exact ⟨⟨s, e, q⟩, hj⟩
theorem ban_set {i : Nat} {d : D} {b : Addr} (h : Ban F (ρ.set i (.d d)) ad b) : Ban F ρ ad b := by
  rcases h with h | ⟨j, o, e⟩
  · exact .inl h
  · exact .inr ⟨j, (own_set o).1, e⟩
theorem StOk.set (h : StOk K dr F ρ σ H ad) {i : Nat} {v : V} {d : D} (r : Rep K (Ban F ρ ad) H v d) : StOk K dr F (ρ.set i (.d d)) (σ.set i (some v)) H ad := by
  refine ⟨by simpa using h.len, fun a b x y => h.inj a b (own_set x).1 (own_set y).1, fun a x => h.nf a (own_set x).1, h.fa, h.dk, h.tb, fun j s e => ?_⟩
  by_cases hj : j = i
  · subst hj
    by_cases hl : j < ρ.length
    · rw [List.getElem?_set_self hl] at e
      cases e
      refine ⟨v, ?_, r.weak fun b => ban_set⟩
      rw [List.getElem?_set_self (by rw [h.len]; exact hl)]
    · rw [List.getElem?_eq_none (by simpa using hl)] at e; cases e
  · rw [List.getElem?_set_ne (Ne.symm hj)] at e
    rw [List.getElem?_set_ne (Ne.symm hj)]
    exact (h.sl j s e).mono (fun v d r => r.weak fun b => ban_set) (fun v d r => r.weak fun b => ban_set) fun _ _ q => q
theorem set_own {ρ : List Sl} {i j : Nat} {d : D} (h : Own ρ j) (hj : j ≠ i) : Own (ρ.set i (.d d)) j := by
  obtain ⟨s, e, q⟩ := h
  exact ⟨s, by rw [List.getElem?_set_ne (Ne.symm hj)]; exact e, q⟩
/-- a new place is banned -/
theorem StOk.newF (s : StOk K dr F ρ σ H ad) {p : Addr} {o : HO} (hp : H p = none) (g : Grow dr H H') (e : H' p = some o) (nt : ∀ xs, o ≠ HO.tup xs) : StOk K dr (fun b => F b ∨ b = p) ρ σ H' ad := by
  have s' := s.grow g
  have hb : ∀ b, Ban (fun b => F b ∨ b = p) ρ ad b → Ban F ρ ad b ∨ H b = none := by
    rintro b ((b | rfl) | b)
    · exact .inl (.inl b)
    · exact .inr hp
    · exact .inl (.inr b)
  have st : Stay (Ban (fun b => F b ∨ b = p) ρ ad) H H' := fun b o eb nb => g.keep b o eb fun z => nb (.inl (.inl (s.dF z)))
  refine ⟨s.len, s.inj, fun i oi z => ?_, fun b z => ?_, fun a l z => ?_, s'.tb, fun i t ei => ?_⟩
  · rcases z with z | z
    · exact s.nf i oi z
    · obtain ⟨x, ex, _⟩ := s.there oi
      rw [z, hp] at ex; cases ex
  · rcases z with z | rfl
    · exact s'.fa b z
    · exact ⟨o, e, nt⟩
  · obtain ⟨f, fl, ne, q⟩ := s'.dk a l z
    exact ⟨.inl f, .inl fl, ne, q⟩
  · refine (s.sl i t ei).mono (fun v d r => (r.ban hb).stay st) (fun v d r => (r.ban hb).stay st) (fun ho o eo => g.keep _ o eo fun z => ?_) (fun _ z => .inl z) (fun e o _ n eo => g.keep e o eo n)
    exact s.nf i ⟨t, ei, ho⟩ (s.dF z)
theorem Grow.updNew {p : Addr} {o : HO} (g : Grow dr H H') (hp : H p = none) : Grow dr H (upd H' p o) := by
  refine ⟨fun b u e nb => ?_, fun a l z q => ?_⟩
  · rw [upd_ne (ne_of_none e hp)]
    exact g.keep b u e nb
  · have q' := g.draw a l z q
    obtain ⟨o1, e1, _⟩ := q.bd
    obtain ⟨o2, e2, _⟩ := q.bdl
    exact q'.imp (fun x e => by rw [upd_ne (ne_of_none e1 hp)]; exact e) fun x e => by rw [upd_ne (ne_of_none e2 hp)]; exact e
/-- some slots are forgotten -/
def wipeS (ρ : List Sl) : List Nat → List Sl
  | [] => ρ
  | v :: vs => (wipeS ρ vs).set v .no
theorem wipeS_length : ∀ vs : List Nat, (wipeS ρ vs).length = ρ.length
  | [] => rfl
  | v :: vs => by unfold wipeS; rw [List.length_set, wipeS_length vs]
theorem wipeS_own : ∀ {vs : List Nat} {j : Nat}, Own (wipeS ρ vs) j → Own ρ j
  | [], _, h => h
  | v :: vs, j, ⟨s, e, q⟩ => by
    unfold wipeS at e
    by_cases hj : v = j
    · subst hj
      by_cases hl : v < (wipeS ρ vs).length
      · rw [List.getElem?_set_self hl] at e; cases e; cases q
      · rw [List.getElem?_eq_none (by simpa using hl)] at e; cases e
    · rw [List.getElem?_set_ne hj] at e
      exact wipeS_own ⟨s, e, q⟩
theorem own_wipeS : ∀ {vs : List Nat} {j : Nat}, j ∉ vs → Own ρ j → Own (wipeS ρ vs) j
  | [], _, _, h => h
  | v :: vs, j, hj, h => by
    obtain ⟨s, e, q⟩ := own_wipeS (vs := vs) (fun z => hj (List.mem_cons_of_mem _ z)) h
    refine ⟨s, ?_, q⟩
    unfold wipeS
    rw [List.getElem?_set_ne fun z => hj (by rw [z]; exact List.mem_cons_self)]
    exact e
theorem StOk.wiped (h : StOk K dr F ρ σ H ad) : ∀ {vs : List Nat}, StOk K dr F (wipeS ρ vs) (wipe σ vs) H ad
  | [] => h
  | v :: vs => by
    have ih := StOk.wiped h (vs := vs)
    have ow : ∀ {j}, Own (wipeS ρ (v :: vs)) j → Own (wipeS ρ vs) j := fun {j} o => by
      obtain ⟨s, e, q⟩ := o
      unfold wipeS at e
      by_cases hj : v = j
      · subst hj
        by_cases hl : v < (wipeS ρ vs).length
        · rw [List.getElem?_set_self hl] at e; cases e; cases q
        · rw [List.getElem?_eq_none (by simpa using hl)] at e; cases e
      · rw [List.getElem?_set_ne hj] at e
        exact ⟨s, e, q⟩
    have bn : ∀ b, Ban F (wipeS ρ (v :: vs)) ad b → Ban F (wipeS ρ vs) ad b := by
      rintro b (b | ⟨i, o, e⟩)
      · exact .inl b
      · exact .inr ⟨i, ow o, e⟩
    refine ⟨by rw [wipe_length, wipeS_length]; exact h.len, fun a b x y => ih.inj a b (ow x) (ow y), fun a x => ih.nf a (ow x), ih.fa, ih.dk, ih.tb, fun j s e => ?_⟩
    unfold wipeS at e
    by_cases hj : v = j
    · subst hj
      by_cases hl : v < (wipeS ρ vs).length
      · rw [List.getElem?_set_self hl] at e; cases e; trivial
      · rw [List.getElem?_eq_none (by simpa using hl)] at e; cases e
    · rw [List.getElem?_set_ne hj] at e
      have : (wipe σ (v :: vs))[j]? = (wipe σ vs)[j]? := by
        show ((wipe σ vs).set v none)[j]? = _
        rw [List.getElem?_set_ne hj]
      rw [this]
      exact (ih.sl j s e).mono (fun v d r => r.weak bn) (fun v d r => r.weak bn) fun _ _ q => q
theorem not_own {ρ : List Sl} {i : Nat} {s : Sl} (h : ρ[i]? = some s) (hs : s.own = false) : ¬ Own ρ i := by
  rintro ⟨t, e, q⟩
  rw [h] at e
  cases e
  rw [hs] at q
  cases q
theorem wipe_set_comm {σ : L2.St} {i : Nat} {x : Option V} : ∀ {vs : List Nat}, i ∈ vs → wipe (σ.set i x) vs = wipe σ vs
  | [], h => by simp at h
  | v :: vs, h => by
    show (wipe (σ.set i x) vs).set v none = (wipe σ vs).set v none
    by_cases hv : i ∈ vs
    · rw [wipe_set_comm hv]
    · have e : i = v := by
        rcases List.mem_cons.mp h with e | e
        · exact e
        · exact absurd e hv
      subst e
      clear h
      have : ∀ {ws : List Nat}, i ∉ ws → wipe (σ.set i x) ws = (wipe σ ws).set i x := by
        intro ws
        induction ws with
        | nil => intro _; rfl
        | cons w ws ih =>
          intro hw
          show (wipe (σ.set i x) ws).set w none = ((wipe σ ws).set w none).set i x
          rw [ih (fun z => hw (List.mem_cons_of_mem _ z)), List.set_comm _ _ (show i ≠ w from fun z => hw (by rw [z]; exact List.mem_cons_self))]
      rw [this hv, List.set_set]
theorem wipe_idem {σ : L2.St} : ∀ (vs ws : List Nat), (∀ i ∈ vs, i ∈ ws) → wipe (wipe σ vs) ws = wipe σ ws
  | [], ws, _ => rfl
  | v :: vs, ws, h => by
    show wipe ((wipe σ vs).set v none) ws = wipe σ ws
    rw [wipe_set_comm (h v List.mem_cons_self)]
    exact wipe_idem vs ws fun i hi => h i (List.mem_cons_of_mem _ hi)
end
/-! ### targets -/
/-- a target's store: the slots behind it; none where the value has not its form -/
def GS (K : PySem.W.Frag) (dr : Drs) (g : TG) (vs : List Nat) (ρ : List Sl) (st : D → Option (List Sl)) : Prop :=
  ∀ (F : Addr → Prop) (ad : Nat → Addr) (σ : L2.St) (H : Hp) (v : V) (d : D) (ρ' : List Sl) (Q : L2.St → Hp → Prop), StOk K dr F ρ σ H ad → Rep K (Ban F ρ ad) H v d → st d = some ρ' →
    (∀ σ', StOk K dr F ρ' σ' H ad → (∀ i, Own ρ i → i ∉ vs → Own ρ' i) → (∀ i, Own ρ' i → Own ρ i) → wipe σ' vs = wipe σ vs → Q σ' H) → g v σ H Q
theorem gs_name {K : PySem.W.Frag} {dr : Drs} {ρ : List Sl} {i : Nat} : GS K dr (gName i) [i] ρ (fun d => some (ρ.set i (.d d))) := by
  intro F ad σ H v d ρ' Q s r e q
  cases e
  exact q _ (s.set r) (fun j o hj => set_own o fun z => hj (by rw [z]; exact List.mem_cons_self)) (fun j o => (own_set o).1) (wipe_set_comm List.mem_cons_self)
theorem gs_name1 {K : PySem.W.Frag} {dr : Drs} (ρ : List Sl) {i : Nat} : GS K dr (gName i) [i] (wipeS ρ [i]) (fun d => some (ρ.set i (.d d))) := by
  have h := gs_name (K := K) (dr := dr) (ρ := wipeS ρ [i]) (i := i)
  have e : (fun d => some ((wipeS ρ [i]).set i (.d d))) = fun d => some (ρ.set i (Sl.d d)) := by
    funext d
    show some ((ρ.set i .no).set i (.d d)) = _
    rw [List.set_set]
  rw [e] at h
  exact h
def setL : List Sl → List Nat → List D → List Sl
  | ρ, i :: is, d :: ds => setL (ρ.set i (.d d)) is ds
  | ρ, _, _ => ρ
def gNames : List Nat → TGs
  | [] => gNil
  | i :: is => gCons (gName i) (gNames is)
theorem own_setL : ∀ {is : List Nat} {ds : List D} {ρ : List Sl} {j : Nat}, Own (setL ρ is ds) j → Own ρ j
  | [], _, _, _, h => h
  | _ :: _, [], _, _, h => h
  | i :: is, d :: ds, ρ, j, h => (own_set (own_setL (is := is) (ds := ds) h)).1
theorem setL_own : ∀ {is : List Nat} {ds : List D} {ρ : List Sl} {j : Nat}, Own ρ j → j ∉ is → Own (setL ρ is ds) j
  | [], _, _, _, h, _ => h
  | _ :: _, [], _, _, h, _ => h
  | i :: is, d :: ds, ρ, j, h, n => setL_own (is := is) (ds := ds) (set_own h fun z => n (by rw [z]; exact List.mem_cons_self)) fun z => n (List.mem_cons_of_mem _ z)
theorem gs_names {K : PySem.W.Frag} {dr : Drs} : ∀ (is : List Nat) (vs : List Nat) (ρ : List Sl), (∀ i ∈ is, i ∈ vs) → ∀ (F : Addr → Prop) (ad : Nat → Addr) (σ : L2.St) (H : Hp) (xs : List V) (ds : List D) (Q : L2.St → Hp → Prop), StOk K dr F ρ σ H ad → Reps K (Ban F ρ ad) H xs ds →
    ds.length = is.length → (∀ σ', StOk K dr F (setL ρ is ds) σ' H ad → wipe σ' vs = wipe σ vs → Q σ' H) → gNames is xs σ H Q
  | [], vs, ρ, hv, F, ad, σ, H, xs, ds, Q, s, r, hl, q => by
    cases ds with
    | nil => cases r; exact ⟨rfl, q σ s rfl⟩
    | cons => cases hl
  | i :: is, vs, ρ, hv, F, ad, σ, H, xs, ds, Q, s, r, hl, q => by
    cases ds with
    | nil => cases hl
    | cons d ds =>
      cases r with
      | @cons v vs' _ _ r rr =>
        refine ⟨v, vs', rfl, ?_⟩
        refine gs_names is vs (ρ.set i (.d d)) (fun j hj => hv j (List.mem_cons_of_mem _ hj)) F ad _ H vs' ds Q (s.set r) (rr.weak fun b => ban_set) (by simpa using hl) fun σ' s' w => q σ' s' ?_
        rw [w, wipe_set_comm (hv i List.mem_cons_self)]
def stT (n : Nat) (is : List Nat) (ρ : List Sl) : D → Option (List Sl)
  | .tuple xs => if xs.length = n then some (setL ρ is xs) else none
  | _ => none
theorem gs_tup {K : PySem.W.Frag} {dr : Drs} {ρ : List Sl} {is : List Nat} : GS K dr (gTup K is.length (gNames is)) is ρ (stT is.length is ρ) := by
  intro F ad σ H v d ρ' Q s r e q
  cases d with
  | tuple xs =>
    unfold stT at e
    by_cases hl : xs.length = is.length
    · simp only [if_pos hl] at e
      cases e
      obtain ⟨a, vs, rfl, h1, rr⟩ := r.tuple
      exact ⟨a, vs, rfl, h1.sq, by rw [rr.length]; exact hl, gs_names is is ρ (fun _ h => h) F ad σ H vs xs Q s rr hl fun σ' s' w => q σ' s' (fun j o hj => setL_own o hj) (fun j o => own_setL o) w⟩
    · simp only [if_neg hl] at e; cases e
  | _ => cases e
/-! ### comprehensions -/
/-- in a comprehension no error may leave -/
abbrev Wd.calm (wd : Wd) : Wd := { wd with W := fun _ _ _ => False }
instance {wd : Wd} [q : Calm wd] : Calm wd.calm := ⟨q.h⟩
theorem Cw.blk {CX : CXT} {k : Nat} {wd : Wd} {N : List Str} {sc : Scope} {X : Cx} (c : Cw CX k wd N sc X) (hF : ∀ outer H s e s', CX outer H s (fun _ _ _ => False) e s' → False) (s0 : Shared) (H0 : Hp) (scope : Scope) (C : Addr) (cl : List (Str × Addr)) (fp : List Addr) :
    Cw CX k wd.calm N (relS scope sc) (X.blk s0 H0 scope (compEnvC scope cl C X.env) fp) :=
  ⟨c.hN, by rw [← c.hs]; rfl, c.nd, fun h => c.calm' h, c.un, c.room', PassesOwn.never, fun pins σ H s e s' I h => hF _ _ _ _ _ h⟩
section
variable {CX : CXT} {k : Nat} {wd : Wd} {N : List Str} {sc : Scope} {X : Cx} {ρ : List Sl} {e a b c tg iter elt : Expr} {ifs : List Expr} {rest : List Expr} {pos p : Pos} {ra rb : R D}
/-- the element's (and the tests') reading in any block -/
def bE (X : Cx) (scope : Scope) (elt : Expr) : TE := fun σ H Q => ∀ s0 H0 C cl fp, BE (X.blk s0 H0 scope (compEnvC scope cl C X.env) fp) elt σ H Q
def bT (X : Cx) (scope : Scope) : List Expr → TT
  | [] => tYes
  | t :: _ => fun σ H Q => ∀ s0 H0 C cl fp, BT (X.blk s0 H0 scope (compEnvC scope cl C X.env) fp) t σ H Q
/-- what the element and the tests compute -/
structure LcEl (X : Cx) (wd : Wd) (scope : Scope) (elt : Expr) (ifs : List Expr) (st : D → Option (List Sl)) (cf : D → R Bool) (f : D → R D) : Prop where
  no : ∀ d, st d = none → cf d = bad
  el : ∀ d ρ', st d = some ρ' → ∀ s0 H0 C cl fp, Ev (X.blk s0 H0 scope (compEnvC scope cl C X.env) fp) wd.calm ρ' elt (f d)
  ts : ∀ d ρ', st d = some ρ' → match ifs with
    | [] => cf d = R.ret true
    | t :: _ => ∀ s0 H0 C cl fp, EvT (X.blk s0 H0 scope (compEnvC scope cl C X.env) fp) wd.calm ρ' t (cf d)
theorem xp_false {X : Cx} {wd : Wd} {F : Addr → Prop} {ad : Nat → Addr} {H : Hp} {α : Type} {Q : α → Prop} {r : R α} (q : r.wp Q fun _ _ => False) : r.wp Q (XP X wd F ρ ad H) := wp_mono (fun _ z => z) (fun _ _ z => z.elim) q
theorem wp_nx' {α : Type} {Q : α → Prop} {E E' : Nat → D → Prop} : ∀ {r : R α}, wp Q E (nx r) → wp Q E' (nx r)
  | .ret a, h => h
  | .exc c x, h => h
  | .bad, h => h
  | .pick n k, h => fun i a b => wp_nx' (h i a b)
theorem lc_read {scope : Scope} {g : TG} {vs : List Nat} {st : D → Option (List Sl)} {cf : D → R Bool} {f : D → R D} {r : R (List D)} (hi : EvJ X wd ρ tg iter r) (hgs : GS X.K wd.dr g vs (wipeS ρ vs) st) (hno : ∀ i ∈ vs, ¬ Own ρ i) (hel : LcEl X wd scope elt ifs st cf f)
    (F : Addr → Prop) (ad : Nat → Addr) (σ : L2.St) (H : Hp) (Q : VK) (s : StOk X.K wd.dr F ρ σ H ad)
    (q : (r.bind fun ds => compR cf f ds []).wp (fun ds => ∀ a vs H', Grow wd.dr H H' → H a = none → H' a = some (.lst vs) → Reps X.K (fun b => Ban F ρ ad b ∨ b = a) H' vs ds → Q (.ref a) H') (XP X wd F ρ ad H)) :
    tLc (BI X tg iter) g (bT X scope ifs) (bE X scope elt) vs σ H Q := by
  rw [wp_bind] at q
  refine hi F ad σ H _ s (wp_mono (fun ds q J H1 g1 hJ => ?_) (fun _ _ z => z) q)
  intro Dn hDn
  have hDn0 := free_grow s g1 hDn
  have s1 := s.grow g1
  -- the new list's place is banned besides
  generalize hF' : (fun b => F b ∨ b = Dn) = F'
  have FF : ∀ b, Ban F ρ ad b → Ban F' ρ ad b := by
    rintro b (z | z)
    · subst hF'; exact .inl (.inl z)
    · exact .inr z
  have FD : Ban F' ρ ad Dn := by subst hF'; exact .inl (.inr rfl)
  have FN : ∀ b, Ban F' ρ ad b → Ban F ρ ad b ∨ H1 b = none := by
    subst hF'
    rintro b ((z | rfl) | z)
    · exact .inl (.inl z)
    · exact .inr hDn
    · exact .inl (.inr z)
  have sF : ∀ {H' : Hp} {xs : List V}, Grow wd.dr H1 H' → H' Dn = some (.lst xs) → StOk X.K wd.dr F' ρ σ H' ad := fun g e => by subst hF'; exact s1.newF hDn g e fun _ z => nomatch z
  obtain ⟨Vd, v0, vS, vG, vY, vE⟩ := hJ (Ban F' ρ ad) FN FF
  have gD : ∀ {o}, Grow wd.dr H1 (upd H1 Dn o) := fun {o} => Grow.same (same_upd hDn)
  -- the invariant
  generalize hIn : (fun (i : Nat) (H' : Hp) => Grow wd.dr H1 H' ∧ Vd H' ∧ ∃ acc vsD, H' Dn = some (.lst vsD) ∧ Reps X.K (Ban F' ρ ad) H' vsD acc ∧
      (compR cf f (ds.drop i) acc).wp (fun ds => ∀ a vs H', Grow wd.dr H H' → H a = none → H' a = some (.lst vs) → Reps X.K (fun b => Ban F ρ ad b ∨ b = a) H' vs ds → Q (.ref a) H') (XP X wd F ρ ad H)) = In
  refine ⟨fun i m H' => m = ds.length - i ∧ i ≤ ds.length ∧ In i H', ⟨ds.length, rfl, Nat.zero_le _, by subst hIn; exact ⟨gD, vS _ _ v0 gD, [], [], upd_same, .nil, q⟩⟩, ?_⟩
  rintro i m H' ⟨rfl, hi', hI⟩
  have hI' := hI
  rw [← hIn] at hI'
  obtain ⟨g2, vd, acc, vsD, eD, rD, q⟩ := hI'
  by_cases hlt : i < ds.length
  · refine .inr ⟨vG _ _ vd hlt, In (i + 1), fun H'' z => ⟨ds.length - (i + 1), by omega, rfl, hlt, z⟩, ?_⟩
    intro x H'' y
    obtain ⟨sm, rx⟩ := vY _ _ _ _ ds[i] vd y (List.getElem?_eq_getElem hlt)
    have g3 : Grow wd.dr H1 H'' := g2.trans (Grow.same sm)
    have eD3 := sm _ _ eD
    have s3r : StOk X.K wd.dr F' ρ σ H'' ad := sF g3 eD3
    have s3 : StOk X.K wd.dr F' (wipeS ρ vs) (wipe σ vs) H'' ad := s3r.wiped
    have wb : ∀ b, Ban F' (wipeS ρ vs) ad b → Ban F' ρ ad b := by
      rintro b (b | ⟨i, o, e⟩)
      · exact .inl b
      · exact .inr ⟨i, wipeS_own o, e⟩
    rw [List.drop_eq_getElem_cons hlt] at q
    have vd3 := vS _ _ vd (Grow.same sm)
    have rD3 := rD.stay (same_stay sm)
    unfold compR at q
    rw [wp_bind] at q
    cases est : st ds[i] with
    | none => rw [hel.no _ est] at q; exact q.elim
    | some ρ' =>
      refine hgs F' ad _ H'' x ds[i] ρ' _ s3 (rx.weak wb) est fun σ' s' ho2 ho w => ⟨by rw [w, wipe_idem vs vs fun _ h => h], ?_⟩
      have hB : ∀ b, Ban F' ρ ad b → Ban F' ρ' ad b := by
        rintro b (b | ⟨j, o, e⟩)
        · exact .inl b
        · have hj : j ∉ vs := fun z => hno j z o
          exact .inr ⟨j, ho2 j (own_wipeS hj o) hj, e⟩
      -- behind the tests
      have key : ∀ (b : Bool) (H3 : Hp), Grow wd.dr H'' H3 → (if b = true then (nx (f ds[i])).bind (fun y => if acc.length < sizeLine then compR cf f (ds.drop (i + 1)) (acc ++ [y]) else bad) else compR cf f (ds.drop (i + 1)) acc).wp (fun ds => ∀ a vs H', Grow wd.dr H H' → H a = none → H' a = some (.lst vs) → Reps X.K (fun b => Ban F ρ ad b ∨ b = a) H' vs ds → Q (.ref a) H') (XP X wd F ρ ad H) →
          (if b = true then bE X scope elt σ' H3 fun y H4 => ∃ acc, H4 Dn = some (.lst acc) ∧ acc.length < sizeLine ∧ In (i + 1) (upd H4 Dn (.lst (acc ++ [y]))) else In (i + 1) H3) := by
        intro b H3 g4 q
        have dne : ¬ Has wd.dr Dn := fun z => by
          obtain ⟨o, e, _⟩ := s1.banned (s1.drF z)
          rw [hDn] at e; cases e
        have eD4 := g4.keep _ _ eD3 dne
        have rD4 := rD3.stay (s3r.stays g4)
        cases b with
        | false => subst hIn; exact iteF ⟨g3.trans g4, vS _ _ vd3 g4, acc, vsD, eD4, rD4, q⟩
        | true =>
          refine iteT fun s0 H0 C cl fp => ?_
          have q : ((nx (f ds[i])).bind (fun y => if acc.length < sizeLine then compR cf f (ds.drop (i + 1)) (acc ++ [y]) else bad)).wp _ _ := q
          rw [wp_bind] at q
          refine hel.el ds[i] ρ' est s0 H0 C cl fp F' ad σ' H3 _ (s'.grow g4) (xp_false (wp_nx (E := fun _ _ => False) ?_))
          refine wp_nx' (E := XP X wd F ρ ad H) (wp_mono (fun y q v H4 g5 rv => ?_) (fun _ _ z => z) q)
          obtain ⟨hz, q⟩ := wp_ite q
          have eD5 := g5.keep _ _ eD4 dne
          have rD5 := rD4.stay ((s3r.grow g4).stays g5)
          have rv' : Rep X.K (Ban F' ρ ad) H4 v y := rv.weak hB
          have g6 := (g3.trans (g4.trans g5)).updNew (o := .lst (vsD ++ [v])) hDn
          refine ⟨vsD, eD5, by rw [rD5.length]; exact hz, ?_⟩
          subst hIn
          refine ⟨g6, vS _ _ v0 g6, acc ++ [y], vsD ++ [v], upd_same, (rD5.append (.cons rv' .nil)).stay fun b o eb nb => ?_, q⟩
          rw [upd_ne fun z => nb (by rw [z]; exact FD)]
          exact eb
      cases ifs with
      | nil =>
        have et := hel.ts ds[i] ρ' est
        simp only at et
        rw [et] at q
        exact key true H'' (Grow.refl _ _) q
      | cons t ts =>
        intro s0 H0 C cl fp
        refine hel.ts ds[i] ρ' est s0 H0 C cl fp F' ad σ' H'' _ s' (xp_false (wp_nx (E := fun _ _ => False) (wp_nx' (E := XP X wd F ρ ad H) (wp_mono (fun b q H3 g4 => key b H3 g4 q) (fun _ _ z => z) q))))
  · have e : i = ds.length := by omega
    subst e
    rw [List.drop_length] at q
    exact .inl ⟨vE _ vd, q _ _ _ (g1.trans g2) hDn0 eD (rD.weak fun b z => by
      rcases z with z | rfl
      · exact FF _ z
      · exact FD)⟩
theorem bE_pe {scope : Scope} (s0 : Shared) (H0 : Hp) (C : Addr) (cl : List (Str × Addr)) (fp : List Addr) : PE (X.blk s0 H0 scope (compEnvC scope cl C X.env) fp) elt (bE X scope elt) := ⟨fun pins s σ H Q I h => h s0 H0 C cl fp pins s I⟩
theorem bT_pts {scope : Scope} (hl : ifs.length ≤ 1) (s0 : Shared) (H0 : Hp) (C : Addr) (cl : List (Str × Addr)) (fp : List Addr) : PTs (X.blk s0 H0 scope (compEnvC scope cl C X.env) fp) ifs (bT X scope ifs) := by
  match ifs, hl with
  | [], _ => exact pts_nil
  | [t], _ => exact pts_one ⟨fun pins s σ H Q I h => h s0 H0 C cl fp pins s I⟩
/-- a target's rule in every block -/
def BlkG (X : Cx) (scope : Scope) (tg : Expr) (g : TG) : Prop := ∀ (s : Shared) (H : Hp) (C : Addr) (cl : List (Str × Addr)) (fp : List Addr), PG (X.blk s H scope (compEnvC scope cl C X.env) fp) tg g
def locB (sc : Scope) (x : Str) : Bool := match sc.names.lookup x with | some .local => true | _ => false
theorem locB_eq {sc : Scope} {x : Str} (h : locB sc x = true) : sc.names.lookup x = some .local := by
  unfold locB at h
  split at h
  · assumption
  · cases h
/-- a name that a comprehension stores: its own, local or a cell -/
def lcB (sc : Scope) (x : Str) : Bool := match sc.names.lookup x with | some .local => true | some .cell => true | _ => false
theorem lcB_eq {sc : Scope} {x : Str} (h : lcB sc x = true) : sc.names.lookup x = some .local ∨ sc.names.lookup x = some .cell := by
  unfold lcB at h
  split at h
  · exact .inl (by assumption)
  · exact .inr (by assumption)
  · cases h
/-- a comprehension's own name -/
def tgB (scope sc : Scope) (x : Str) : Bool := lcB (relS scope sc) x && ((scope.names.lookup x == some .cell) || locB (relS scope sc) x)
theorem blkg_name (c : Cw CX k wd N sc X) {scope : Scope} {i : Nat} {x : Str} (hN : N[i]? = some x) (hl : tgB scope sc x = true) : BlkG X scope (.Name x p) (gName i) := fun s H C cl fp => by
  have hs : (X.blk s H scope (compEnvC scope cl C X.env) fp).env.scope = relS scope sc := by rw [← c.hs]; rfl
  unfold tgB at hl
  rw [Bool.and_eq_true, Bool.or_eq_true] at hl
  refine pg_name (by rw [show (X.blk s H scope (compEnvC scope cl C X.env) fp).N = N from c.hN]; exact c.nd) (by rw [show (X.blk s H scope (compEnvC scope cl C X.env) fp).N = N from c.hN]; exact hN) ?_ ?_
  · unfold L2.Loc
    rw [hs]
    exact lcB_eq hl.1
  · rcases hl.2 with h | h
    · exact .inl h
    · refine .inr ?_
      rw [hs]
      exact locB_eq h
theorem evl_compG [Calm wd] (c : Cw CX k wd N sc X) {scope : Scope} {own : List (Str × Nat)} {g : TG} {st : D → Option (List Sl)} {cf : D → R Bool} {f : D → R D} {r : R (List D)} (hok : blkC N sc scope own = true) (hg : BlkG X scope tg g) (hgs : GS X.K wd.dr g (own.map (·.2)) (wipeS ρ (own.map (·.2))) st) (hno : ∀ i ∈ own.map (·.2), ¬ Own ρ i)
    (hi : EvJ X wd ρ tg iter r) (hl : ifs.length ≤ 1) (hel : LcEl X wd scope elt ifs st cf f) (hs : ∀ x, foldedSetIterable iter X.env x = pure x := by exact fun _ => rfl) : EvL X wd ρ (.ListComp elt [⟨tg, iter, ifs, 0⟩] scope pos) (r.bind fun ds => compR cf f ds []) := fun F ad σ H Q s q =>
  be (pe_lc (own := own) c.calm (by rw [c.hN]; exact c.nd) pi_b (by rw [c.hN, c.hs]; exact blkOk_by hok) hg (bT_pts hl) bE_pe hs) (lc_read hi hgs hno hel F ad σ H Q s q)
/-- [elt for x in iter] -/
theorem evl_comp [Calm wd] (c : Cw CX k wd N sc X) {scope : Scope} {i : Nat} {x : Str} {f : D → R D} {r : R (List D)} (hok : blkC N sc scope [(x, i)] = true) (hN : N[i]? = some x) (hx : tgB scope sc x = true) {sl : Sl} (hno : ρ[i]? = some sl) (hsl : sl.own = false) (hi : EvJ X wd ρ (.Name x p) iter r)
    (hel : ∀ d s0 H0 C cl fp, Ev (X.blk s0 H0 scope (compEnvC scope cl C X.env) fp) wd.calm (ρ.set i (.d d)) elt (f d)) (hs : ∀ x, foldedSetIterable iter X.env x = pure x := by exact fun _ => rfl) :
    EvL X wd ρ (.ListComp elt [⟨.Name x p, iter, [], 0⟩] scope pos) (r.bind fun ds => compR (fun _ => R.ret true) f ds []) :=
  evl_compG c (own := [(x, i)]) hok (blkg_name c hN hx) (gs_name1 ρ) (fun j hj => by simp at hj; subst hj; exact not_own hno hsl) hi (Nat.zero_le _) ⟨fun d e => (by cases e), fun d ρ' e => (by cases e; exact hel d), fun d ρ' e => rfl⟩ hs
/-- [elt for x in iter if t] -/
theorem evl_compif [Calm wd] (c : Cw CX k wd N sc X) {scope : Scope} {i : Nat} {x : Str} {t : Expr} {cf : D → R Bool} {f : D → R D} {r : R (List D)} (hok : blkC N sc scope [(x, i)] = true) (hN : N[i]? = some x) (hx : tgB scope sc x = true) {sl : Sl} (hno : ρ[i]? = some sl) (hsl : sl.own = false) (hi : EvJ X wd ρ (.Name x p) iter r)
    (ht : ∀ d s0 H0 C cl fp, EvT (X.blk s0 H0 scope (compEnvC scope cl C X.env) fp) wd.calm (ρ.set i (.d d)) t (cf d))
    (hel : ∀ d s0 H0 C cl fp, Ev (X.blk s0 H0 scope (compEnvC scope cl C X.env) fp) wd.calm (ρ.set i (.d d)) elt (f d)) (hs : ∀ x, foldedSetIterable iter X.env x = pure x := by exact fun _ => rfl) :
    EvL X wd ρ (.ListComp elt [⟨.Name x p, iter, [t], 0⟩] scope pos) (r.bind fun ds => compR cf f ds []) :=
  evl_compG c (own := [(x, i)]) hok (blkg_name c hN hx) (gs_name1 ρ) (fun j hj => by simp at hj; subst hj; exact not_own hno hsl) hi (Nat.le_refl _) ⟨fun d e => (by cases e), fun d ρ' e => (by cases e; exact hel d), fun d ρ' e => by cases e; exact ht d⟩ hs
/-! ### calls of defs -/
/-- a def that computes m of its arguments, and raises nothing -/
def spP (K : PySem.W.Frag) (n : Nat) (m : List D → R D) : Sp := fun vs H Q _ => ∃ (B : Addr → Prop) (ds : List D), Fo K H B ∧ ds.length = n ∧ Reps K B H vs ds ∧
  (m ds).wp (fun d => ∀ v H', Same H H' → Rep K B H' v d → Q v H') fun _ _ => False
/-- the same, the first argument the draws -/
def spD (K : PySem.W.Frag) (n : Nat) (m : List D → R D) : Sp := fun vs H Q _ => ∃ (B : Addr → Prop) (a l : Addr) (vs' : List V) (ds : List D), Fo K H B ∧ vs = .ref a :: vs' ∧ B a ∧ B l ∧ l ≠ a ∧ DrAt H a l ∧ ds.length = n ∧ Reps K B H vs' ds ∧
  (m ds).wp (fun d => ∀ v H', Grow (some (a, l)) H H' → Rep K B H' v d → Q v H') fun _ _ => False
/-- where errors are wanted by nobody -/
structure NoW (wd : Wd) : Prop where
  w : wd.W = fun _ _ _ => False
  x : ∀ c, (wd.xc c).2 = none
theorem NoW.xp {X : Cx} {wd : Wd} (h : NoW wd) {F : Addr → Prop} {ρ : List Sl} {ad : Nat → Addr} {H : Hp} {c : Nat} {x : D} (q : XP X wd F ρ ad H c x) : False := by
  have := q (wd.xc c).1 none H (Grow.refl _ _) ⟨rfl, by rw [h.x c]⟩
  rw [h.w] at this
  exact this
/-- a def of the text, as its callers see it -/
structure Dn (X : Cx) (CX : CXT) (j : Nat) (x : Str) (sp : Sp) : Prop where
  ok : ∃ (f : Addr) (fd : FuncData) (ps : List Str), X.mg x = some (.ref f) ∧ PySem.W.keepIn X.K (.ref f) = true ∧ Binds X.K fd ps [] ∧ FnOk X.prog X.w X.K X.mg X.base CX j f fd ps sp
theorem ev_call [Calm wd] (c : Cw CX k wd N sc X) (W : NoW wd) {x : Str} {j n : Nat} {m : List D → R D} {es : List Expr} {rs : R (List D)} (G : Dn X CX j x (spP X.K n m)) (hj : j ≤ k) (hg : glB sc x = true) (ha : EvA X wd ρ (e :: es) rs) (hm : ∀ ds, ds.length ≠ n → m ds = bad)
    (he : starEach (e :: es) X.env = (false, eval e X.env) :: starEach es X.env := by rfl) (hpl : (backTo pos (starEach es X.env)).any (·.1) = false := by rfl) : Ev X wd ρ (.Call (.Name x p) (e :: es) [] pos) (rs.bind m) := fun F ad σ H Q s q => by
  obtain ⟨f, fd, ps, h1, h2, h3, h4⟩ := G.ok
  refine be (pe_call h4 (c.room.mono hj) (c.gl hg).1 h1 h2 h3 .nil c.ps pa_b (c.gl hg).2.1 he hpl) ?_
  rw [wp_bind] at q
  refine ha F ad σ H _ s (wp_mono (fun ds q vs H1 g1 r1 => ?_) (fun _ _ z => z) q)
  have s1 := s.grow g1
  by_cases hl : ds.length = n
  · exact ⟨Ban F ρ ad, ds, s1.fo, hl, by rw [List.append_nil]; exact r1, wp_mono (fun d z v H' sm r => z v H' (g1.trans (Grow.same sm)) r) (fun _ _ z => W.xp z) q⟩
  · rw [hm ds hl] at q; exact q.elim
/-- a call with the draws ahead -/
theorem ev_callD [Calm wd] (c : Cw CX k wd N sc X) (W : NoW wd) {x y : Str} {i j n : Nat} {py : Pos} {m : List D → R D} {es : List Expr} {rs : R (List D)} (G : Dn X CX j x (spD X.K n m)) (hj : j ≤ k) (hg : glB sc x = true) (hv : visB sc y = true) (hN : N[i]? = some y) (hρ : ρ[i]? = some .w) (ha : EvA X wd ρ es rs) (hm : ∀ ds, ds.length ≠ n → m ds = bad)
    (hpl : (backTo pos (starEach es X.env)).any (·.1) = false := by rfl) : Ev X wd ρ (.Call (.Name x p) (.Name y py :: es) [] pos) (rs.bind m) := fun F ad σ H Q s q => by
  obtain ⟨f, fd, ps, h1, h2, h3, h4⟩ := G.ok
  obtain ⟨v1, v2, v3⟩ := c.vis hv
  refine be (pe_call h4 (c.room.mono hj) (c.gl hg).1 h1 h2 h3 .nil c.ps (pa_cons (pe_var (i := i) (by rw [c.hN]; exact hN) v1 v2 v3) pa_b rfl) (c.gl hg).2.1 rfl hpl) ?_
  obtain ⟨dr, l, hd, ev⟩ := s.sl i _ hρ
  refine ⟨_, ev, ?_⟩
  rw [wp_bind] at q
  refine ha F ad σ H _ s (wp_mono (fun ds q vs H1 g1 r1 => ?_) (fun _ _ z => z) q)
  have s1 := s.grow g1
  obtain ⟨fd', fl, ne, da⟩ := s1.dk dr l hd
  by_cases hl : ds.length = n
  · exact ⟨Ban F ρ ad, dr, l, vs, ds, s1.fo, by rw [List.append_nil], .inl fd', .inl fl, ne, da, hl, r1, wp_mono (fun d z v H' g r => z v H' (g1.trans (by rw [hd]; exact g)) r) (fun _ _ z => W.xp z) q⟩
  · rw [hm ds hl] at q; exact q.elim
end
end Pu
/-! Ps: blocks that compute how they end. -/
namespace Pu
open PySem PySem.Spec PyProof.Rows L2 R
/-! ### from state to state -/
structure Adv (wd : Wd) (ρ : List Sl) (ad : Nat → Addr) (H : Hp) (ρ' : List Sl) (ad' : Nat → Addr) (H' : Hp) : Prop where
  keep : ∀ b o, H b = some o → ¬ Has wd.dr b → ¬ OwnA ρ ad b → H' b = some o ∧ ¬ OwnA ρ' ad' b
  draw : ∀ a l, wd.dr = some (a, l) → DrAt H a l → DrAt H' a l
  pin : ∀ i, wd.pin i = true → ad' i = ad i
section
variable {wd : Wd} {K : PySem.W.Frag} {F : Addr → Prop} {ρ ρ' ρ1 : List Sl} {σ σ' : L2.St} {H H' H1 : Hp} {ad ad' ad1 : Nat → Addr}
theorem Adv.refl : Adv wd ρ ad H ρ ad H := ⟨fun _ _ h _ n => ⟨h, n⟩, fun _ _ _ h => h, fun _ _ => rfl⟩
theorem Adv.trans (a : Adv wd ρ ad H ρ1 ad1 H1) (b : Adv wd ρ1 ad1 H1 ρ' ad' H') : Adv wd ρ ad H ρ' ad' H' :=
  ⟨fun x o h n m => let ⟨h1, m1⟩ := a.keep x o h n m; b.keep x o h1 n m1, fun x l e h => b.draw x l e (a.draw x l e h), fun i h => (b.pin i h).trans (a.pin i h)⟩
theorem Adv.grow (g : Grow wd.dr H H') : Adv wd ρ ad H ρ ad H' := ⟨fun b o h n m => ⟨g.keep b o h n, m⟩, g.draw, fun _ _ => rfl⟩
/-- fewer are owned -/
theorem Adv.less (h : ∀ i, Own ρ' i → Own ρ i) : Adv wd ρ ad H ρ' ad H := ⟨fun b o e n m => ⟨e, fun ⟨i, o, e⟩ => m ⟨i, h i o, e⟩⟩, fun _ _ _ h => h, fun _ _ => rfl⟩
theorem Adv.set {i : Nat} {d : D} : Adv wd ρ ad H (ρ.set i (.d d)) ad H := .less fun _ o => (own_set o).1
theorem Adv.stay (a : Adv wd ρ ad H ρ' ad' H') (s : StOk K wd.dr F ρ σ H ad) : Stay (Ban F ρ ad) H H' := fun b o e nb => (a.keep b o e (fun z => nb (s.drF z)) fun z => nb (.inr z)).1
end
/-! ### what is handed back -/
def keyD : Key → D
  | .inl i => .int i
  | .inr x => .str x
/-- an object of a def's own, as data (no data of the language is such a dict) -/
def encK (kvs : List (Key × D)) : D := .dict (kvs.map fun p => (keyD p.1, p.2))
def encT (kvs : List (List Key × D)) : D := .dict ((.none, .none) :: kvs.map fun p => (.tuple (p.1.map keyD), p.2))
def encC : Ct → D
  | .l xs => .dict [(.bool true, .list xs)]
  | .k kvs => encK kvs
  | .t kvs => encT kvs
inductive RetL (K : PySem.W.Frag) (B : Addr → Prop) (H : Hp) : List V → List D → List Addr → Prop
  | nil : RetL K B H [] [] []
  | d {v : V} {d : D} {vs : List V} {ds : List D} {as : List Addr} : Rep K B H v d → RetL K B H vs ds as → RetL K B H (v :: vs) (d :: ds) as
  | o {a : Addr} {c : Ct} {vs : List V} {ds : List D} {as : List Addr} : HasCt K B H a c → RetL K B H vs ds as → RetL K B H (.ref a :: vs) (encC c :: ds) (a :: as)
inductive RetV (K : PySem.W.Frag) (B : Addr → Prop) (H : Hp) : V → D → List Addr → Prop
  | one {a : Addr} {c : Ct} : HasCt K B H a c → RetV K B H (.ref a) (encC c) [a]
  | tup {p : Addr} {vs : List V} {ds : List D} {as : List Addr} : H p = some (.tup vs) → RetL K B H vs ds as → RetV K B H (.ref p) (.tuple ds) as
/-- data, or new objects that nobody else has -/
def RetO (own : Bool) (dr : Drs) (K : PySem.W.Frag) (nw : Addr → Prop) (B : Addr → Prop) (H : Hp) (v : V) (d : D) : Prop := Rep K B H v d ∨ (own = true ∧ ∃ as : List Addr, as.Nodup ∧ (∀ a ∈ as, ¬ B a ∧ ¬ Has dr a ∧ nw a) ∧ RetV K (fun b => B b ∨ b ∈ as) H v d as)
theorem RetO.rep {own : Bool} {dr : Drs} {K : PySem.W.Frag} {nw B : Addr → Prop} {H : Hp} {v : V} {d : D} (h : RetO own dr K nw B H v d) (ho : own = false) : Rep K B H v d := by
  rcases h with h | ⟨h, _⟩
  · exact h
  · rw [ho] at h; cases h
theorem HasCt.weak {K : PySem.W.Frag} {B B' : Addr → Prop} {H : Hp} {a : Addr} {c : Ct} (h : HasCt K B H a c) (hb : ∀ b, B' b → B b) : HasCt K B' H a c := h.mono (fun _ _ r => r.weak hb) (fun _ _ r => r.weak hb) fun _ q => q
theorem RetL.weak {K : PySem.W.Frag} {B B' : Addr → Prop} {H : Hp} {vs : List V} {ds : List D} {as : List Addr} (h : RetL K B H vs ds as) (hb : ∀ b, B' b → B b) : RetL K B' H vs ds as := by
  induction h with
  | nil => exact .nil
  | d r _ ih => exact .d (r.weak hb) ih
  | o c _ ih => exact .o (c.weak hb) ih
theorem RetV.weak {K : PySem.W.Frag} {B B' : Addr → Prop} {H : Hp} {v : V} {d : D} {as : List Addr} (h : RetV K B H v d as) (hb : ∀ b, B' b → B b) : RetV K B' H v d as := by
  cases h with
  | one c => exact .one (c.weak hb)
  | tup e l => exact .tup e (l.weak hb)
theorem RetO.weak {own : Bool} {dr : Drs} {K : PySem.W.Frag} {nw B B' : Addr → Prop} {H : Hp} {v : V} {d : D} (h : RetO own dr K nw B H v d) (hb : ∀ b, B' b → B b) : RetO own dr K nw B' H v d :=
  h.imp (fun r => r.weak hb) fun ⟨ho, as, h1, h2, h3⟩ => ⟨ho, as, h1, fun a ha => ⟨fun z => (h2 a ha).1 (hb a z), (h2 a ha).2⟩, h3.weak fun b z => z.imp (hb b) id⟩
theorem RetO.mono {own : Bool} {dr : Drs} {K : PySem.W.Frag} {nw nw' B : Addr → Prop} {H : Hp} {v : V} {d : D} (h : RetO own dr K nw B H v d) (k : ∀ a, ¬ Has dr a → nw a → nw' a) : RetO own dr K nw' B H v d :=
  h.imp id fun ⟨ho, as, h1, h2, h3⟩ => ⟨ho, as, h1, fun a ha => ⟨(h2 a ha).1, (h2 a ha).2.1, k a (h2 a ha).2.1 (h2 a ha).2.2⟩, h3⟩
/-! ### judgements of blocks -/
section
variable (X : Cx) (wd : Wd) {S B T : Type} (eS : S → List Sl) (eB : B → List Sl) (eT : T → List Sl)
def OutOk (F : Addr → Prop) (ρ : List Sl) (ad : Nat → Addr) (H : Hp) (Dn : Ends) : Out S B T → Prop
  | .nx s => ∀ ad' σ' H', Adv wd ρ ad H (eS s) ad' H' → StOk X.K wd.dr F (eS s) σ' H' ad' → Dn.nx σ' H'
  | .bk s => ∀ ad' σ' H', Adv wd ρ ad H (eB s) ad' H' → StOk X.K wd.dr F (eB s) σ' H' ad' → Dn.bk σ' H'
  | .ct s => ∀ ad' σ' H', Adv wd ρ ad H (eB s) ad' H' → StOk X.K wd.dr F (eB s) σ' H' ad' → Dn.ct σ' H'
  | .rt d t => ∀ v ad' ρ' σ' H', Adv wd ρ ad H ρ' ad' H' → StOk X.K wd.dr F ρ' σ' H' ad' → (∀ (i : Nat) (s : Sl), (eT t)[i]? = some s → s.own = true → ρ'[i]? = some s) → RetO wd.own wd.dr X.K (fun a => OwnA ρ ad a ∨ H a = none) (Ban F ρ' ad') H' v d → Dn.rt v H'
def XPs (F : Addr → Prop) (ρ : List Sl) (ad : Nat → Addr) (H : Hp) (c : Nat) (x : D) : Prop := ∀ C dx ad' ρ' σ' H', Adv wd ρ ad H ρ' ad' H' → StOk X.K wd.dr F ρ' σ' H' ad' → XRep wd X.K (Ban F ρ' ad') H' c x C dx → wd.W C dx H'
def Run (ρ : List Sl) (ss : List Stmt) (o : R (Out S B T)) : Prop := ∀ (F : Addr → Prop) (ad : Nat → Addr) (σ : L2.St) (H : Hp) (Dn : Ends), StOk X.K wd.dr F ρ σ H ad →
  o.wp (OutOk X wd eS eB eT F ρ ad H Dn) (XPs X wd F ρ ad H) → BSs X ss Dn σ H
end
section
variable {X : Cx} {wd : Wd} {S S' B T : Type} {eS : S → List Sl} {eS' : S' → List Sl} {eB : B → List Sl} {eT : T → List Sl} {F : Addr → Prop} {ρ ρ1 : List Sl} {ad ad1 : Nat → Addr} {H H1 : Hp} {Dn : Ends} {σ : L2.St}
theorem OutOk.adv (a : Adv wd ρ ad H ρ1 ad1 H1) : ∀ {o : Out S B T}, OutOk X wd eS eB eT F ρ ad H Dn o → OutOk X wd eS eB eT F ρ1 ad1 H1 Dn o
  | .nx _, h => fun ad' σ' H' b => h ad' σ' H' (a.trans b)
  | .bk _, h => fun ad' σ' H' b => h ad' σ' H' (a.trans b)
  | .ct _, h => fun ad' σ' H' b => h ad' σ' H' (a.trans b)
  | .rt _ _, h => fun v ad' ρ' σ' H' b s c r => h v ad' ρ' σ' H' (a.trans b) s c (r.mono fun x n z => by
    by_cases hx : OwnA ρ ad x
    · exact .inl hx
    · refine .inr ?_
      cases e : H x with
      | none => rfl
      | some o =>
        obtain ⟨k1, k2⟩ := a.keep x o e n hx
        rcases z with z | z
        · exact absurd z k2
        · rw [k1] at z; cases z)
theorem XPs.adv (a : Adv wd ρ ad H ρ1 ad1 H1) {c : Nat} {x : D} (h : XPs X wd F ρ ad H c x) : XPs X wd F ρ1 ad1 H1 c x := fun C dx ad' ρ' σ' H' b => h C dx ad' ρ' σ' H' (a.trans b)
theorem XPs.xp (s : StOk X.K wd.dr F ρ σ H ad) {c : Nat} {x : D} (h : XPs X wd F ρ ad H c x) : XP X wd F ρ ad H c x := fun C dx H' g r => h C dx ad ρ σ H' (.grow g) (s.grow g) r
theorem wp_adv (a : Adv wd ρ ad H ρ1 ad1 H1) {r : R (Out S B T)} (q : r.wp (OutOk X wd eS eB eT F ρ ad H Dn) (XPs X wd F ρ ad H)) : r.wp (OutOk X wd eS eB eT F ρ1 ad1 H1 Dn) (XPs X wd F ρ1 ad1 H1) :=
  wp_mono (fun _ => OutOk.adv a) (fun _ _ => XPs.adv a) q
end
/-- the context of a def's own body -/
structure Cd (CX : CXT) (k : Nat) (wd : Wd) (N : List Str) (sc : Scope) (X : Cx) : Prop extends Cw CX k wd N sc X where
  fn : ∀ x, X.fn x = true
  kind : sc.kind = .function
  stk : X.stack = X.env :: X.outer
  frm : X.env.frame = some X.env.locals
section
variable {CX : CXT} {k : Nat} {wd : Wd} {N : List Str} {sc : Scope} {X : Cx} {S S' S1 B B' T : Type} {eS : S → List Sl} {eS1 : S1 → List Sl} {eS' : S' → List Sl} {eB : B → List Sl} {eB' : B' → List Sl} {eT : T → List Sl} {ρ ρ1 : List Sl} {e a b : Expr} {rest A1 B1 : List Stmt} {pos p : Pos} {ra rb : R D}
theorem Cd.loc (c : Cd CX k wd N sc X) {x : Str} (h : lcB sc x = true) : L2.Loc X.env.scope x := by
  unfold L2.Loc
  rw [c.hs]
  exact lcB_eq h
theorem Cd.nd' (c : Cd CX k wd N sc X) : X.N.Nodup := by rw [c.hN]; exact c.nd
theorem Cd.at (c : Cd CX k wd N sc X) {i : Nat} {x : Str} (h : N[i]? = some x) : X.N[i]? = some x := by rw [c.hN]; exact h
theorem run_nil {s : S} (h : Le (eS s) ρ) : Run X wd eS eB eT ρ [] (R.ret (.nx s)) := fun F ad σ H Dn st q => bss pss_nil (q ad σ H (.less fun _ => h.own) (st.le h))
theorem run_le {ss : List Stmt} {o : R (Out S B T)} (h : Le ρ1 ρ) (r : Run X wd eS eB eT ρ1 ss o) : Run X wd eS eB eT ρ ss o := fun F ad σ H Dn st q => r F ad σ H Dn (st.le h) (wp_adv (.less fun _ => h.own) q)
/-- behind an expression that is d -/
theorem step_ev {o : D → R (Out S B T)} {σ : L2.St} {H : Hp} {F : Addr → Prop} {ad : Nat → Addr} {Dn : Ends} {Q : VK} (ha : Ev X wd ρ e ra) (st : StOk X.K wd.dr F ρ σ H ad) (q : (ra.bind o).wp (OutOk X wd eS eB eT F ρ ad H Dn) (XPs X wd F ρ ad H))
    (h : ∀ d v H', Grow wd.dr H H' → Rep X.K (Ban F ρ ad) H' v d → (o d).wp (OutOk X wd eS eB eT F ρ ad H' Dn) (XPs X wd F ρ ad H') → Q v H') : BE X e σ H Q := by
  rw [wp_bind] at q
  exact ha F ad σ H _ st (wp_mono (fun d q v H' g r => h d v H' g r (wp_adv (.grow g) q)) (fun _ _ z => z.xp st) q)
/-- x = e -/
theorem run_set (c : Cd CX k wd N sc X) {i : Nat} {x : Str} {o : D → R (Out S B T)} (hx : lcB sc x = true) (hN : N[i]? = some x) (ha : Ev X wd ρ e ra) (hr : ∀ d, Run X wd eS eB eT (ρ.set i (.d d)) rest (o d))
    (hs : swapsWith e (some (.Name x p)) pos.line X.env = pure false := by rfl) : Run X wd eS eB eT ρ (.Assign [.Name x p] e pos :: rest) (ra.bind o) := fun F ad σ H Dn st q =>
  bss (pss_cons (ps_set c.nd' (c.at hN) (c.loc hx) pe_b hs (.inl (c.fn x))) pss_b) (step_ev ha st q fun d v H' g r q => hr d F ad (σ.set i (some v)) H' Dn ((st.grow g).set r) (wp_adv .set q))
/-- e alone -/
theorem run_expr {o : R (Out S B T)} (ha : Ev X wd ρ e ra) (hr : Run X wd eS eB eT ρ rest o) (hs : swapsWith e none pos.line X.env = pure false := by rfl) : Run X wd eS eB eT ρ (.Expr e pos :: rest) (ra.bind fun _ => o) := fun F ad σ H Dn st q =>
  bss (pss_cons (ps_expr pe_b hs) pss_b) (step_ev ha st q fun d v H' g r q => hr F ad σ H' Dn (st.grow g) q)
/-- return e -/
theorem run_ret {t : T} (ha : Ev X wd ρ e ra) (ht : ∀ (i : Nat) (s : Sl), (eT t)[i]? = some s → s.own = true → ρ[i]? = some s) : Run X wd eS eB eT ρ [.Return (some e) pos] (ra.bind fun d => R.ret (.rt d t)) := fun F ad σ H Dn st q =>
  bss (pss_one (ps_ret pe_b)) (step_ev (o := fun d => R.ret (.rt d t)) ha st q fun d v H' g r q => q v ad ρ σ H' .refl (st.grow g) ht (.inl r))
theorem run_retN {t : T} (ht : ∀ (i : Nat) (s : Sl), (eT t)[i]? = some s → s.own = true → ρ[i]? = some s) : Run X wd eS eB eT ρ [.Return none pos] (R.ret (.rt .none t)) := fun F ad σ H Dn st q =>
  bss (pss_one ps_retN) (q _ ad ρ σ H .refl st ht (.inl .non))
theorem run_pass {o : R (Out S B T)} (hr : Run X wd eS eB eT ρ rest o) : Run X wd eS eB eT ρ (.Pass pos :: rest) o := fun F ad σ H Dn st q => bss (pss_cons ps_pass pss_b) (hr F ad σ H Dn st q)
theorem run_break {s : B} (h : Le (eB s) ρ) : Run X wd eS eB eT ρ [.Break pos] (R.ret (.bk s)) := fun F ad σ H Dn st q => bss (pss_one ps_break) (q ad σ H (.less fun _ => h.own) (st.le h))
theorem run_cont {s : B} (h : Le (eB s) ρ) : Run X wd eS eB eT ρ [.Continue pos] (R.ret (.ct s)) := fun F ad σ H Dn st q => bss (pss_one ps_continue) (q ad σ H (.less fun _ => h.own) (st.le h))
/-- if, the last of its block -/
theorem run_if1 {tc : R Bool} {oa ob : R (Out S B T)} (hc : EvT X wd ρ e tc) (hA : Run X wd eS eB eT ρ A1 oa) (hB : Run X wd eS eB eT ρ B1 ob) : Run X wd eS eB eT ρ [.If e A1 B1 pos] (tc.bind fun b => if b = true then oa else ob) := fun F ad σ H Dn st q => by
  refine bss (pss_one (ps_if pt_b pss_b pss_b)) ?_
  rw [wp_bind] at q
  refine hc F ad σ H _ st (wp_mono (fun x q H1 g1 => ?_) (fun _ _ z => z.xp st) q)
  have q := wp_adv (.grow g1) q
  cases x with
  | true => exact iteT (hA F ad σ H1 Dn (st.grow g1) q)
  | false => exact iteF (hB F ad σ H1 Dn (st.grow g1) q)
/-- if, and what follows -/
theorem run_if {tc : R Bool} {oa ob : R (Out S1 B T)} {o : S1 → R (Out S B T)} (hc : EvT X wd ρ e tc) (hA : Run X wd eS1 eB eT ρ A1 oa) (hB : Run X wd eS1 eB eT ρ B1 ob) (hr : ∀ s, Run X wd eS eB eT (eS1 s) rest (o s)) :
    Run X wd eS eB eT ρ (.If e A1 B1 pos :: rest) (tc.bind fun b => seqR (if b = true then oa else ob) o) := fun F ad σ H Dn st q => by
  refine bss (pss_cons (ps_if pt_b pss_b pss_b) pss_b) ?_
  rw [wp_bind] at q
  refine hc F ad σ H _ st (wp_mono (fun x q H1 g1 => ?_) (fun _ _ z => z.xp st) q)
  have q := wp_adv (.grow g1) q
  unfold seqR at q
  rw [wp_bind] at q
  have key : ∀ r : R (Out S1 B T), r.wp (fun x => (match x with
      | .nx s => o s
      | .bk b => R.ret (.bk b)
      | .ct b => R.ret (.ct b)
      | .rt d t => R.ret (.rt d t)).wp (OutOk X wd eS eB eT F ρ ad H1 Dn) (XPs X wd F ρ ad H1)) (XPs X wd F ρ ad H1) →
      r.wp (OutOk X wd eS1 eB eT F ρ ad H1 { Dn with nx := BSs X rest Dn }) (XPs X wd F ρ ad H1) := fun r q => by
    refine wp_mono (fun x q => ?_) (fun _ _ z => z) q
    cases x with
    | nx s => exact fun ad' σ' H' a s' => hr s F ad' σ' H' Dn s' (wp_adv a q)
    | bk b => exact q
    | ct b => exact q
    | rt d t => exact q
  cases x with
  | true => exact iteT (hA F ad σ H1 _ (st.grow g1) (key _ q))
  | false => exact iteF (hB F ad σ H1 _ (st.grow g1) (key _ q))
/-- a block that does not come to its end, as one with any end -/
def up {S B T : Type} (r : R (Out Empty B T)) : R (Out S B T) := r.bind fun o => match o with
  | .nx s => s.elim
  | .bk b => R.ret (.bk b)
  | .ct b => R.ret (.ct b)
  | .rt d t => R.ret (.rt d t)
@[simp] theorem up_rt {S B T : Type} (d : D) (t : T) : up (S := S) (B := B) (R.ret (.rt d t)) = R.ret (.rt d t) := rfl
/-- if, its first block leaves, no second one; what follows -/
theorem run_ifx {tc : R Bool} {oa : R (Out Empty B T)} {o : R (Out S B T)} {eE : Empty → List Sl} (hc : EvT X wd ρ e tc) (hA : Run X wd eE eB eT ρ A1 oa) (hr : Run X wd eS eB eT ρ rest o) :
    Run X wd eS eB eT ρ (.If e A1 [] pos :: rest) (tc.bind fun b => if b = true then up oa else o) := fun F ad σ H Dn st q => by
  refine bss (pss_cons (ps_if pt_b pss_b pss_nil) pss_b) ?_
  rw [wp_bind] at q
  refine hc F ad σ H _ st (wp_mono (fun x q H1 g1 => ?_) (fun _ _ z => z.xp st) q)
  have q := wp_adv (.grow g1) q
  cases x with
  | true =>
    refine iteT (hA F ad σ H1 _ (st.grow g1) ?_)
    have q : (up oa).wp (OutOk X wd eS eB eT F ρ ad H1 Dn) (XPs X wd F ρ ad H1) := q
    unfold up at q
    rw [wp_bind] at q
    refine wp_mono (fun x q => ?_) (fun _ _ z => z) q
    cases x with
    | nx s => exact s.elim
    | bk b => exact q
    | ct b => exact q
    | rt d t => exact q
  | false => exact iteF (hr F ad σ H1 Dn (st.grow g1) q)
/-- for .. -/
theorem run_forG [Calm wd] (c : Cd CX k wd N sc X) {tg iter : Expr} {body : List Stmt} {g : TG} {vs : List Nat} {st : S1 → D → Option (List Sl)} {r : R (List D)} {s0 : S1} {f : D → S1 → R (Out S1 S1 T)} {o : S1 → R (Out S B T)} (hi : EvI X wd ρ tg iter r) (hl : Le (eS1 s0) ρ)
    (hg : PG X tg g) (hgs : ∀ s, GS X.K wd.dr g vs (eS1 s) (st s)) (hno : ∀ s d, st s d = none → f d s = bad) (hb : ∀ s d ρ', st s d = some ρ' → Run X wd eS1 eS1 eT ρ' body (f d s)) (hr : ∀ s, Run X wd eS eB eT (eS1 s) rest (o s))
    (hs : ∀ x, foldedSetIterable iter X.env x = pure x := by exact fun _ => rfl) : Run X wd eS eB eT ρ (.For tg iter body [] pos :: rest) (r.bind fun ds => seqR (forR f ds s0) o) := fun F ad σ H Dn sk q => by
  refine bss (pss_cons (ps_for c.po c.calm pi_b hg pss_b hs) pss_b) ?_
  rw [wp_bind] at q
  refine hi F ad σ H _ sk (wp_mono (fun ds q J H1 g1 hJ => ?_) (fun _ _ z => z.xp sk) q)
  have sk1 := sk.grow g1
  have q := wp_adv (.grow g1) q
  obtain ⟨Vd, v0, vS, vG, vY, vE⟩ := hJ (fun b => Ban F ρ ad b ∨ H1 b = none) (fun b z => z) (fun b z => .inl z)
  -- what stays through the loop
  have stay : ∀ {ρ' : List Sl} {ad' : Nat → Addr} {H' : Hp}, Adv wd ρ ad H1 ρ' ad' H' → Stay (fun b => Ban F ρ ad b ∨ H1 b = none) H1 H' := fun {ρ' ad' H'} a b o e nb => (a.keep b o e (fun z => nb (.inl (sk.drF z))) fun z => nb (.inl (.inr z))).1
  have ban : ∀ {ρ' : List Sl} {ad' : Nat → Addr} {H' : Hp}, Adv wd ρ ad H1 ρ' ad' H' → ∀ b, Ban F ρ' ad' b → Ban F ρ ad b ∨ H1 b = none := fun {ρ' ad' H'} a b z => by
    rcases z with z | z
    · exact .inl (.inl z)
    · cases e : H1 b with
      | none => exact .inr rfl
      | some x =>
        refine .inl ?_
        by_cases hd : Has wd.dr b
        · exact sk.drF hd
        · by_cases ho : OwnA ρ ad b
          · exact .inr ho
          · exact absurd z (a.keep b x e hd ho).2
  have fin : ∀ {s : S1} {ad' : Nat → Addr} {σ' : L2.St} {H' : Hp}, Adv wd ρ ad H1 (eS1 s) ad' H' → StOk X.K wd.dr F (eS1 s) σ' H' ad' → (o s).wp (OutOk X wd eS eB eT F ρ ad H1 Dn) (XPs X wd F ρ ad H1) → BSs X rest Dn σ' H' := fun {s ad' σ' H'} a s' q =>
    hr s F ad' σ' H' Dn s' (wp_adv a q)
  generalize hIn : (fun (i : Nat) (σ' : L2.St) (H' : Hp) => ∃ s ad', Adv wd ρ ad H1 (eS1 s) ad' H' ∧ StOk X.K wd.dr F (eS1 s) σ' H' ad' ∧
      (seqR (forR f (ds.drop i) s) o).wp (OutOk X wd eS eB eT F ρ ad H1 Dn) (XPs X wd F ρ ad H1)) = In
  refine ⟨fun i m σ' H' => m = ds.length - i ∧ i ≤ ds.length ∧ In i σ' H', ⟨ds.length, rfl, Nat.zero_le _, by subst hIn; exact ⟨s0, ad, .less fun _ => hl.own, sk1.le hl, q⟩⟩, ?_⟩
  rintro i m σ2 H2 ⟨rfl, hi', hI⟩
  have hI' := hI
  rw [← hIn] at hI'
  obtain ⟨s, ad2, a2, sk2, q⟩ := hI'
  have vd : Vd H2 := vS _ _ v0 (stay a2)
  by_cases hlt : i < ds.length
  · refine .inr ⟨vG _ _ vd hlt, In (i + 1), fun σ' H' z => ⟨ds.length - (i + 1), by omega, rfl, hlt, z⟩, ?_⟩
    intro x H3 y
    obtain ⟨sm, rx⟩ := vY _ _ _ _ ds[i] vd y (List.getElem?_eq_getElem hlt)
    have g3 : Grow wd.dr H2 H3 := Grow.same sm
    have sk3 := sk2.grow g3
    have a3 : Adv wd ρ ad H1 (eS1 s) ad2 H3 := a2.trans (.grow g3)
    rw [List.drop_eq_getElem_cons hlt] at q
    unfold forR seqR at q
    rw [bind_assoc, wp_bind] at q
    cases est : st s ds[i] with
    | none => rw [hno s _ est] at q; exact q.elim
    | some ρ' =>
      refine hgs s F ad2 σ2 H3 x ds[i] ρ' _ sk3 (rx.weak (ban a3)) est fun σ' s' ho2 ho w => ?_
      have a4 : Adv wd ρ ad H1 ρ' ad2 H3 := a3.trans (.less ho)
      refine hb s ds[i] ρ' est F ad2 σ' H3 _ s' (wp_mono (fun x q => ?_) (fun _ _ z => z.adv a4) q)
      cases x with
      | nx s5 => subst hIn; exact fun ad5 σ5 H5 a5 s5' => ⟨s5, ad5, a4.trans a5, s5', q⟩
      | ct s5 => subst hIn; exact fun ad5 σ5 H5 a5 s5' => ⟨s5, ad5, a4.trans a5, s5', q⟩
      | bk s5 => exact fun ad5 σ5 H5 a5 s5' => fin (a4.trans a5) s5' q
      | rt d t => exact OutOk.adv (o := .rt d t) a4 q
  · have e : i = ds.length := by omega
    subst e
    rw [List.drop_length] at q
    exact .inl ⟨vE _ vd, fin a2 sk2 q⟩
/-- for x in .. -/
theorem run_for [Calm wd] (c : Cd CX k wd N sc X) {i : Nat} {x : Str} {iter : Expr} {body : List Stmt} {r : R (List D)} {s0 : S1} {f : D → S1 → R (Out S1 S1 T)} {o : S1 → R (Out S B T)} (hx : lcB sc x = true) (hN : N[i]? = some x) (hi : EvI X wd ρ (.Name x p) iter r) (hl : Le (eS1 s0) ρ)
    (hb : ∀ s d, Run X wd eS1 eS1 eT ((eS1 s).set i (.d d)) body (f d s)) (hr : ∀ s, Run X wd eS eB eT (eS1 s) rest (o s))
    (hs : ∀ x, foldedSetIterable iter X.env x = pure x := by exact fun _ => rfl) : Run X wd eS eB eT ρ (.For (.Name x p) iter body [] pos :: rest) (r.bind fun ds => seqR (forR f ds s0) o) :=
  run_forG c (vs := [i]) (st := fun s d => some ((eS1 s).set i (.d d))) hi hl (pg_name c.nd' (c.at hN) (c.loc hx) (.inl (c.fn x))) (fun s => gs_name) (fun s d e => by cases e) (fun s d ρ' e => by cases e; exact hb s d) hr hs
end
end Pu
/-! Pt: owned lists, unpacking, defs by their bodies, the draws. -/
namespace Pu
open PySem PySem.Spec PyProof.Rows L2 R
section
variable {K : PySem.W.Frag} {dr : Drs} {F : Addr → Prop} {ρ ρ' : List Sl} {σ σ' : L2.St} {H H' : Hp} {ad ad' : Nat → Addr}
/-- a new object is owned by slot i -/
theorem StOk.setOwn (s : StOk K dr F ρ σ H ad) (g : Grow dr H H') {i : Nat} {p : Addr} {sl : Sl} (hp : H p = none) (hs : sl.own = true) (h : SlOk K dr F (Ban F (ρ.set i sl) fun j => if j = i then p else ad j) H' (some (some (.ref p))) p sl) :
    StOk K dr F (ρ.set i sl) (σ.set i (some (.ref p))) H' (fun j => if j = i then p else ad j) := by
  have s' := s.grow g
  have ow : ∀ {j}, Own (ρ.set i sl) j → j ≠ i → Own ρ j := fun {j} o hj => by
    obtain ⟨t, e, q⟩ := o
    rw [List.getElem?_set_ne (Ne.symm hj)] at e
    exact ⟨t, e, q⟩
  have np : ∀ {j}, Own ρ j → ad j ≠ p := fun {j} o e => by
    obtain ⟨x, ex, _⟩ := s.there o
    rw [e, hp] at ex; cases ex
  have hb : ∀ b, Ban F (ρ.set i sl) (fun j => if j = i then p else ad j) b → Ban F ρ ad b ∨ H b = none := by
    rintro b (b | ⟨j, o, e⟩)
    · exact .inl (.inl b)
    · by_cases hj : j = i
      · simp only [hj, if_true] at e
        subst e
        exact .inr hp
      · simp only [hj, if_false] at e
        exact .inl (.inr ⟨j, ow o hj, e⟩)
  have st : Stay (Ban F (ρ.set i sl) fun j => if j = i then p else ad j) H H' := fun b o eb nb => g.keep b o eb fun z => nb (.inl (s.dF z))
  refine ⟨by simpa using s.len, fun a b oa ob e => ?_, fun a oa z => ?_, s'.fa, s'.dk, s'.tb, fun j t e => ?_⟩
  · by_cases ha : a = i <;> by_cases hb : b = i
    · rw [ha, hb]
    · simp only [ha, hb, if_true, if_false] at e
      exact absurd e.symm (np (ow ob hb))
    · simp only [ha, hb, if_true, if_false] at e
      exact absurd e (np (ow oa ha))
    · simp only [ha, hb, if_false] at e
      exact s.inj a b (ow oa ha) (ow ob hb) e
  · by_cases ha : a = i
    · simp only [ha, if_true] at z
      obtain ⟨x, ex, _⟩ := s.fa p z
      rw [hp] at ex; cases ex
    · simp only [ha, if_false] at z
      exact s.nf a (ow oa ha) z
  · by_cases hj : j = i
    · subst hj
      by_cases hl : j < ρ.length
      · rw [List.getElem?_set_self hl] at e
        cases e
        rw [List.getElem?_set_self (by rw [s.len]; exact hl)]
        simp only [if_true]
        exact h
      · rw [List.getElem?_eq_none (by simpa using hl)] at e; cases e
    · rw [List.getElem?_set_ne (Ne.symm hj)] at e
      rw [List.getElem?_set_ne (Ne.symm hj)]
      simp only [hj, if_false]
      refine (s.sl j t e).mono (fun v d r => (r.ban hb).stay st) (fun v d r => (r.ban hb).stay st) (fun ho o eo => g.keep _ o eo fun z => ?_) (fun _ z => z) (fun e o _ n eo => g.keep e o eo n)
      exact s.nf j ⟨t, e, ho⟩ (s.dF z)
theorem Adv.setOwn {wd : Wd} {i : Nat} {p : Addr} {sl : Sl} (hp : H p = none) (hi : wd.pin i = false) : Adv wd ρ ad H (ρ.set i sl) (fun j => if j = i then p else ad j) H := by
  refine ⟨fun b o e n m => ⟨e, fun ⟨j, ⟨t, et, q⟩, ej⟩ => ?_⟩, fun _ _ _ h => h, fun j hj => ?_⟩
  · by_cases hji : j = i
    · simp only [hji, if_true] at ej
      rw [← ej, hp] at e; cases e
    · simp only [hji, if_false] at ej
      rw [List.getElem?_set_ne (Ne.symm hji)] at et
      exact m ⟨j, ⟨t, et, q⟩, ej⟩
  · by_cases hji : j = i
    · rw [hji, hi] at hj; cases hj
    · simp only [hji, if_false]
/-- an owned object is written -/
theorem StOk.mut (s : StOk K dr F ρ σ H ad) {i : Nat} {sl : Sl} {o : HO} (ow : Own ρ i) (hs : sl.own = true) (h : SlOk K dr F (Ban F ρ ad) (upd H (ad i) o) σ[i]? (ad i) sl) : StOk K dr F (ρ.set i sl) σ (upd H (ad i) o) ad := by
  have oi : ∀ {j}, Own (ρ.set i sl) j → Own ρ j := fun {j} oj => by
    by_cases hj : j = i
    · rw [hj]; exact ow
    · obtain ⟨t, e, q⟩ := oj
      rw [List.getElem?_set_ne (Ne.symm hj)] at e
      exact ⟨t, e, q⟩
  have hb : ∀ b, Ban F (ρ.set i sl) ad b → Ban F ρ ad b := by
    rintro b (b | ⟨j, o, e⟩)
    · exact .inl b
    · exact .inr ⟨j, oi o, e⟩
  have st : Stay (Ban F ρ ad) H (upd H (ad i) o) := fun b u eb nb => by
    rw [upd_ne fun z => nb (by rw [z]; exact .inr ⟨i, ow, rfl⟩)]
    exact eb
  have nF : ∀ {b}, F b → b ≠ ad i := fun {b} fb z => s.nf i ow (by rw [← z]; exact fb)
  refine ⟨by simpa using s.len, fun a b x y => s.inj a b (oi x) (oi y), fun a x => s.nf a (oi x), fun b fb => ?_, fun a l e => ?_, s.tbU ow _, fun j t e => ?_⟩
  · obtain ⟨u, eu, nt⟩ := s.fa b fb
    exact ⟨u, by rw [upd_ne (nF fb)]; exact eu, nt⟩
  · obtain ⟨f, fl, ne, q⟩ := s.dk a l e
    exact ⟨f, fl, ne, q.imp (fun x e => by rw [upd_ne (nF f)]; exact e) fun x e => by rw [upd_ne (nF fl)]; exact e⟩
  · by_cases hj : j = i
    · subst hj
      by_cases hl : j < ρ.length
      · rw [List.getElem?_set_self hl] at e
        cases e
        exact h.mono (fun v d r => r.weak hb) (fun v d r => r.weak hb) fun _ _ q => q
      · rw [List.getElem?_eq_none (by simpa using hl)] at e; cases e
    · rw [List.getElem?_set_ne (Ne.symm hj)] at e
      refine (s.sl j t e).mono (fun v d r => (r.stay st).weak hb) (fun v d r => (r.stay st).weak hb) (fun ho u eu => ?_) (fun _ z => z) (fun e o fe _ eo => by rw [upd_ne (nF fe)]; exact eo)
      rw [upd_ne fun z => hj (s.inj j i ⟨t, e, ho⟩ ow z)]
      exact eu
theorem Adv.mut {wd : Wd} (s : StOk K wd.dr F ρ σ H ad) {i : Nat} {sl : Sl} {o : HO} (ow : Own ρ i) : Adv wd ρ ad H (ρ.set i sl) ad (upd H (ad i) o) := by
  refine ⟨fun b u e n m => ⟨?_, fun ⟨j, ⟨t, et, q⟩, ej⟩ => m ⟨j, ?_, ej⟩⟩, fun a l z q => ?_, fun _ _ => rfl⟩
  · rw [upd_ne fun z => m ⟨i, ow, z.symm⟩]
    exact e
  · by_cases hj : j = i
    · rw [hj]; exact ow
    · rw [List.getElem?_set_ne (Ne.symm hj)] at et
      exact ⟨t, et, q⟩
  · obtain ⟨f, fl, _, _⟩ := s.dk a l z
    have nF : ∀ {b}, F b → b ≠ ad i := fun {b} fb z => s.nf i ow (by rw [← z]; exact fb)
    exact q.imp (fun x e => by rw [upd_ne (nF f)]; exact e) fun x e => by rw [upd_ne (nF fl)]; exact e
end
section
variable {CX : CXT} {k : Nat} {wd : Wd} {N : List Str} {sc : Scope} {X : Cx} {S S' S1 B B' T : Type} {eS : S → List Sl} {eS1 : S1 → List Sl} {eS' : S' → List Sl} {eB : B → List Sl} {eB' : B' → List Sl} {eT : T → List Sl} {ρ ρ1 : List Sl} {e a b tg iter elt : Expr} {ifs : List Expr} {rest A1 B1 : List Stmt} {pos p py : Pos} {ra rb : R D}
/-- how a new list comes: a reading of any form -/
def LsR (X : Cx) (wd : Wd) (ρ : List Sl) (t : TE) (r : R (List D)) : Prop := ∀ (F : Addr → Prop) (ad : Nat → Addr) (σ : L2.St) (H : Hp) (Q : VK), StOk X.K wd.dr F ρ σ H ad →
  r.wp (fun ds => ∀ a vs H', Grow wd.dr H H' → H a = none → H' a = some (.lst vs) → Reps X.K (fun b => Ban F ρ ad b ∨ b = a) H' vs ds → Q (.ref a) H') (XP X wd F ρ ad H) → t σ H Q
/-- x = a new list that x owns -/
theorem setO_core {i : Nat} {t : TE} {st : Stmt} {o : List D → R (Out S B T)} {r : R (List D)} (hp : PS X st (tAsg t (gName i))) (ht : LsR X wd ρ t r) (hi : wd.pin i = false) (hr : ∀ ds, Run X wd eS eB eT (ρ.set i (.l ds)) rest (o ds)) : Run X wd eS eB eT ρ (st :: rest) (r.bind o) := fun F ad σ H Dn sk q => by
  refine bss (pss_cons hp pss_b) ?_
  rw [wp_bind] at q
  refine ht F ad σ H _ sk (wp_mono (fun ds q a vs H1 g ha e r => ?_) (fun _ _ z => z.xp sk) q)
  have hb : ∀ b, Ban F (ρ.set i (.l ds)) (fun j => if j = i then a else ad j) b → Ban F ρ ad b ∨ b = a := by
    rintro b (b | ⟨j, ⟨t, et, qt⟩, e⟩)
    · exact .inl (.inl b)
    · by_cases hj : j = i
      · simp only [hj, if_true] at e; exact .inr e.symm
      · simp only [hj, if_false] at e
        rw [List.getElem?_set_ne (Ne.symm hj)] at et
        exact .inl (.inr ⟨j, ⟨t, et, qt⟩, e⟩)
  exact hr ds F _ _ H1 Dn (sk.setOwn g ha rfl ⟨rfl, vs, e, r.weak hb⟩) (wp_adv (.trans (.setOwn ha hi) (.grow g)) q)
/-- x = a new list that nobody changes -/
theorem setF_core {i : Nat} {t : TE} {st : Stmt} {o : List D → R (Out S B T)} {r : R (List D)} (hp : PS X st (tAsg t (gName i))) (ht : LsR X wd ρ t r) (hr : ∀ ds, Run X wd eS eB eT (ρ.set i (.d (.list ds))) rest (o ds)) : Run X wd eS eB eT ρ (st :: rest) (r.bind o) := fun F ad σ H Dn sk q => by
  refine bss (pss_cons hp pss_b) ?_
  rw [wp_bind] at q
  refine ht F ad σ H _ sk (wp_mono (fun ds q a vs H1 g ha e r => ?_) (fun _ _ z => z.xp sk) q)
  refine hr ds F ad _ H1 Dn ((sk.grow g).set (.lst (.inl e) (fun z => ?_) (r.weak fun b => .inl))) (wp_adv (.trans (.grow g) .set) q)
  obtain ⟨x, ex, _⟩ := sk.banned z
  rw [ha] at ex; cases ex
theorem lsr_ev {r : R (List D)} (h : EvL X wd ρ e r) : LsR X wd ρ (BE X e) r := h
theorem run_setO (c : Cd CX k wd N sc X) {i : Nat} {x : Str} {o : List D → R (Out S B T)} {r : R (List D)} (hx : lcB sc x = true) (hN : N[i]? = some x) (hi : wd.pin i = false) (ha : EvL X wd ρ e r) (hr : ∀ ds, Run X wd eS eB eT (ρ.set i (.l ds)) rest (o ds))
    (hs : swapsWith e (some (.Name x p)) pos.line X.env = pure false := by rfl) : Run X wd eS eB eT ρ (.Assign [.Name x p] e pos :: rest) (r.bind o) :=
  setO_core (ps_set c.nd' (c.at hN) (c.loc hx) pe_b hs (.inl (c.fn x))) ha hi hr
/-- what a statement «x = [..]» asks of the scope: x a local, no name of the comprehension, on one line -/
def swB (sc scope : Scope) (x : Str) (l1 l2 : Nat) : Bool := locB sc x && (l1 == l2) && !(scope.names.any fun (n, k) => n == x && (k == .local || k == .cell))
theorem swaps_of (c : Cd CX k wd N sc X) {scope : Scope} {x : Str} {gs : List Comprehension} (h : swB sc scope x p.line pos.line = true) {l : Nat} : swapsWith (.ListComp elt gs scope pos) (some (.Name x p)) l X.env = pure true := by
  unfold swB at h
  rw [Bool.and_eq_true, Bool.and_eq_true] at h
  obtain ⟨⟨h1, h2⟩, h3⟩ := h
  exact sw_true (by rw [c.hs]; exact c.kind) (by rw [c.hs]; exact locB_eq h1) h2 (by simpa using h3)
theorem ps_comp [Calm wd] (c : Cd CX k wd N sc X) {scope : Scope} {own : List (Str × Nat)} {g : TG} {i : Nat} {x : Str} {spos : Pos} (hx : swB sc scope x p.line pos.line = true) (hN : N[i]? = some x) (hok : blkC N sc scope own = true) (hg : BlkG X scope tg g) (hl : ifs.length ≤ 1) (hs : ∀ x, foldedSetIterable iter X.env x = pure x) :
    PS X (.Assign [.Name x p] (.ListComp elt [⟨tg, iter, ifs, 0⟩] scope pos) spos) (tAsg (tLc (BI X tg iter) g (bT X scope ifs) (bE X scope elt) (own.map (·.2))) (gName i)) := by
  have hx1 : X.env.scope.names.lookup x = some .local := by
    rw [c.hs]
    unfold swB at hx
    rw [Bool.and_eq_true, Bool.and_eq_true] at hx
    exact locB_eq hx.1.1
  exact ps_setLc (own := own) c.calm c.nd' (c.at hN) hx1 (swaps_of c hx) pi_b (by rw [c.hN, c.hs]; exact blkOk_by hok) hg (bT_pts hl) bE_pe hs
/-- x = [elt for y in iter], nobody changes it -/
theorem run_setC [Calm wd] (c : Cd CX k wd N sc X) {scope : Scope} {i j : Nat} {x y : Str} {spos : Pos} {f : D → R D} {r : R (List D)} {o : List D → R (Out S B T)} (hx : swB sc scope x p.line pos.line = true) (hN : N[i]? = some x) (hok : blkC N sc scope [(y, j)] = true) (hNy : N[j]? = some y) (hy : tgB scope sc y = true) {sl : Sl} (hno : ρ[j]? = some sl) (hsl : sl.own = false)
    (hi : EvJ X wd ρ (.Name y py) iter r) (hel : ∀ d s0 H0 C cl fp, Ev (X.blk s0 H0 scope (compEnvC scope cl C X.env) fp) wd.calm (ρ.set j (.d d)) elt (f d)) (hr : ∀ ds, Run X wd eS eB eT (ρ.set i (.d (.list ds))) rest (o ds)) (hs : ∀ x, foldedSetIterable iter X.env x = pure x := by exact fun _ => rfl) :
    Run X wd eS eB eT ρ (.Assign [.Name x p] (.ListComp elt [⟨.Name y py, iter, [], 0⟩] scope pos) spos :: rest) ((r.bind fun ds => compR (fun _ => R.ret true) f ds []).bind o) :=
  setF_core (ps_comp c (own := [(y, j)]) hx hN hok (blkg_name c.toCw hNy hy) (Nat.zero_le _) hs)
    (fun F ad σ H Q s q => lc_read hi (gs_name1 ρ) (fun z hz => by simp at hz; subst hz; exact not_own hno hsl) ⟨fun d e => (by cases e), fun d ρ' e => (by cases e; exact hel d), fun d ρ' e => rfl⟩ F ad σ H Q s q) hr
theorem run_setCO [Calm wd] (c : Cd CX k wd N sc X) {scope : Scope} {i j : Nat} {x y : Str} {spos : Pos} {f : D → R D} {r : R (List D)} {o : List D → R (Out S B T)} (hx : swB sc scope x p.line pos.line = true) (hN : N[i]? = some x) (hp : wd.pin i = false) (hok : blkC N sc scope [(y, j)] = true) (hNy : N[j]? = some y) (hy : tgB scope sc y = true) {sl : Sl} (hno : ρ[j]? = some sl) (hsl : sl.own = false)
    (hi : EvJ X wd ρ (.Name y py) iter r) (hel : ∀ d s0 H0 C cl fp, Ev (X.blk s0 H0 scope (compEnvC scope cl C X.env) fp) wd.calm (ρ.set j (.d d)) elt (f d)) (hr : ∀ ds, Run X wd eS eB eT (ρ.set i (.l ds)) rest (o ds)) (hs : ∀ x, foldedSetIterable iter X.env x = pure x := by exact fun _ => rfl) :
    Run X wd eS eB eT ρ (.Assign [.Name x p] (.ListComp elt [⟨.Name y py, iter, [], 0⟩] scope pos) spos :: rest) ((r.bind fun ds => compR (fun _ => R.ret true) f ds []).bind o) :=
  setO_core (ps_comp c (own := [(y, j)]) hx hN hok (blkg_name c.toCw hNy hy) (Nat.zero_le _) hs)
    (fun F ad σ H Q s q => lc_read hi (gs_name1 ρ) (fun z hz => by simp at hz; subst hz; exact not_own hno hsl) ⟨fun d e => (by cases e), fun d ρ' e => (by cases e; exact hel d), fun d ρ' e => rfl⟩ F ad σ H Q s q) hp hr
theorem run_setCif [Calm wd] (c : Cd CX k wd N sc X) {scope : Scope} {i j : Nat} {x y : Str} {spos : Pos} {t : Expr} {cf : D → R Bool} {f : D → R D} {r : R (List D)} {o : List D → R (Out S B T)} (hx : swB sc scope x p.line pos.line = true) (hN : N[i]? = some x) (hok : blkC N sc scope [(y, j)] = true) (hNy : N[j]? = some y) (hy : tgB scope sc y = true) {sl : Sl} (hno : ρ[j]? = some sl) (hsl : sl.own = false)
    (hi : EvJ X wd ρ (.Name y py) iter r) (ht : ∀ d s0 H0 C cl fp, EvT (X.blk s0 H0 scope (compEnvC scope cl C X.env) fp) wd.calm (ρ.set j (.d d)) t (cf d)) (hel : ∀ d s0 H0 C cl fp, Ev (X.blk s0 H0 scope (compEnvC scope cl C X.env) fp) wd.calm (ρ.set j (.d d)) elt (f d)) (hr : ∀ ds, Run X wd eS eB eT (ρ.set i (.d (.list ds))) rest (o ds)) (hs : ∀ x, foldedSetIterable iter X.env x = pure x := by exact fun _ => rfl) :
    Run X wd eS eB eT ρ (.Assign [.Name x p] (.ListComp elt [⟨.Name y py, iter, [t], 0⟩] scope pos) spos :: rest) ((r.bind fun ds => compR cf f ds []).bind o) :=
  setF_core (ps_comp c (own := [(y, j)]) hx hN hok (blkg_name c.toCw hNy hy) (Nat.le_refl _) hs)
    (fun F ad σ H Q s q => lc_read hi (gs_name1 ρ) (fun z hz => by simp at hz; subst hz; exact not_own hno hsl) ⟨fun d e => (by cases e), fun d ρ' e => (by cases e; exact hel d), fun d ρ' e => (by cases e; exact ht d)⟩ F ad σ H Q s q) hr
/-- x = [..] where x is a cell: an ordinary store -/
theorem cell_swaps (c : Cw CX k wd N sc X) {scope : Scope} {x : Str} {gs : List Comprehension} (h : sc.names.lookup x = some .cell) {l : Nat} : swapsWith (.ListComp elt gs scope pos) (some (.Name x p)) l X.env = pure false := by
  have kx : X.env.kindOf x = some .cell := by
    show X.env.scope.names.lookup x = _
    rw [c.hs]
    exact h
  unfold swapsWith
  simp only [kx]
  rw [show ((some NameKind.cell == some NameKind.local) = false) from rfl, Bool.and_false, Bool.false_and, Bool.false_and]
/-! ### unpacking, += -/
def unp2 {α : Type} (d : D) (f : D → D → R α) : R α := match d with
  | .tuple [a, b] => f a b
  | _ => bad
def unp3 {α : Type} (d : D) (f : D → D → D → R α) : R α := match d with
  | .tuple [a, b, c] => f a b c
  | _ => bad
def unp4 {α : Type} (d : D) (f : D → D → D → D → R α) : R α := match d with
  | .tuple [a, b, c, e] => f a b c e
  | _ => bad
/-- several names set from a tuple -/
theorem unp_core (c : Cd CX k wd N sc X) {is : List Nat} {es : List Expr} {kt : Nat} {pt : Pos} {o : D → R (Out S B T)} {spos : Pos} (hg : PG X (.Tuple es kt pt) (gTup X.K is.length (gNames is))) (ha : Ev X wd ρ e ra) (hno : ∀ d, stT is.length is ρ d = none → o d = bad)
    (hr : ∀ d ρ', stT is.length is ρ d = some ρ' → Run X wd eS eB eT ρ' rest (o d)) (hs : swapsWithSole [.Tuple es kt pt] e spos.line X.env = pure false := by rfl) (hw : swappedStores [.Tuple es kt pt] e X.env = pure none := by rfl) (h1 : (assignEach [.Tuple es kt pt] X.env).map (·.2) = [assign (.Tuple es kt pt) X.env] := by rfl) :
    Run X wd eS eB eT ρ (.Assign [.Tuple es kt pt] e spos :: rest) (ra.bind o) := fun F ad σ H Dn st q => by
  refine bss (pss_cons (ps_asg pe_b hg hs hw h1) pss_b) (step_ev ha st q fun d v H' g r q => ?_)
  cases est : stT is.length is ρ d with
  | none => rw [hno d est] at q; exact q.elim
  | some ρ' => exact gs_tup F ad σ H' v d ρ' _ (st.grow g) r est fun σ' s' ho2 ho w => hr d ρ' est F ad σ' H' Dn s' (wp_adv (.less ho) q)
theorem pgn_nil : PGs X [] (gNames []) := pgs_nil
theorem pgn_cons (c : Cd CX k wd N sc X) {i : Nat} {x : Str} {es : List Expr} {is : List Nat} (hx : lcB sc x = true) (hN : N[i]? = some x) (h : PGs X es (gNames is)) (hs : (assignEach (.Name x p :: es) X.env).map (·.2) = assign (.Name x p) X.env :: (assignEach es X.env).map (·.2) := by rfl) : PGs X (.Name x p :: es) (gNames (i :: is)) :=
  pgs_cons (pg_name c.nd' (c.at hN) (c.loc hx) (.inl (c.fn x))) h hs
theorem stT2 {i j : Nat} {d : D} {ρ' : List Sl} (h : stT 2 [i, j] ρ d = some ρ') : ∃ a b, d = .tuple [a, b] ∧ ρ' = (ρ.set i (.d a)).set j (.d b) := by
  cases d with
  | tuple xs =>
    unfold stT at h
    match xs, h with
    | [a, b], h => cases h; exact ⟨a, b, rfl, rfl⟩
    | [], h => cases h
    | [_], h => cases h
    | _ :: _ :: _ :: _, h => simp at h
  | _ => cases h
theorem stT2n {i j : Nat} {d : D} {α : Type} {f : D → D → R α} (h : stT 2 [i, j] ρ d = none) : unp2 d f = bad := by
  cases d with
  | tuple xs =>
    match xs with
    | [a, b] => cases h
    | [] => rfl
    | [_] => rfl
    | _ :: _ :: _ :: _ => rfl
  | _ => rfl
theorem run_unp2 [Calm wd] (c : Cd CX k wd N sc X) {i j : Nat} {x y : Str} {kt : Nat} {pt px py spos : Pos} {o : D → D → R (Out S B T)} (hx : lcB sc x = true) (hN : N[i]? = some x) (hy : lcB sc y = true) (hN2 : N[j]? = some y) (ha : Ev X wd ρ e ra)
    (hr : ∀ a b, Run X wd eS eB eT ((ρ.set i (.d a)).set j (.d b)) rest (o a b)) (hs : swapsWithSole [.Tuple [.Name x px, .Name y py] kt pt] e spos.line X.env = pure false := by rfl) (hw : swappedStores [.Tuple [.Name x px, .Name y py] kt pt] e X.env = pure none := by rfl) :
    Run X wd eS eB eT ρ (.Assign [.Tuple [.Name x px, .Name y py] kt pt] e spos :: rest) (ra.bind fun d => unp2 d o) :=
  unp_core c (is := [i, j]) (pg_tup c.calm (pgn_cons c hx hN (pgn_cons c hy hN2 pgn_nil))) ha (fun d h => stT2n h) (fun d ρ' h => by obtain ⟨a, b, rfl, rfl⟩ := stT2 h; exact hr a b) hs hw
theorem stT3 {i j l : Nat} {d : D} {ρ' : List Sl} (h : stT 3 [i, j, l] ρ d = some ρ') : ∃ a b c, d = .tuple [a, b, c] ∧ ρ' = ((ρ.set i (.d a)).set j (.d b)).set l (.d c) := by
  cases d with
  | tuple xs =>
    unfold stT at h
    match xs, h with
    | [a, b, c], h => cases h; exact ⟨a, b, c, rfl, rfl⟩
    | [], h => cases h
    | [_], h => cases h
    | [_, _], h => cases h
    | _ :: _ :: _ :: _ :: _, h => simp at h
  | _ => cases h
theorem stT3n {i j l : Nat} {d : D} {α : Type} {f : D → D → D → R α} (h : stT 3 [i, j, l] ρ d = none) : unp3 d f = bad := by
  cases d with
  | tuple xs =>
    match xs with
    | [a, b, c] => cases h
    | [] => rfl
    | [_] => rfl
    | [_, _] => rfl
    | _ :: _ :: _ :: _ :: _ => rfl
  | _ => rfl
theorem run_unp3 [Calm wd] (c : Cd CX k wd N sc X) {i j l : Nat} {x y z : Str} {kt : Nat} {pt px py pz spos : Pos} {o : D → D → D → R (Out S B T)} (hx : lcB sc x = true) (hN : N[i]? = some x) (hy : lcB sc y = true) (hN2 : N[j]? = some y) (hz : lcB sc z = true) (hN3 : N[l]? = some z) (ha : Ev X wd ρ e ra)
    (hr : ∀ a b d, Run X wd eS eB eT (((ρ.set i (.d a)).set j (.d b)).set l (.d d)) rest (o a b d)) (hs : swapsWithSole [.Tuple [.Name x px, .Name y py, .Name z pz] kt pt] e spos.line X.env = pure false := by rfl) (hw : swappedStores [.Tuple [.Name x px, .Name y py, .Name z pz] kt pt] e X.env = pure none := by rfl) :
    Run X wd eS eB eT ρ (.Assign [.Tuple [.Name x px, .Name y py, .Name z pz] kt pt] e spos :: rest) (ra.bind fun d => unp3 d o) :=
  unp_core c (is := [i, j, l]) (pg_tup c.calm (pgn_cons c hx hN (pgn_cons c hy hN2 (pgn_cons c hz hN3 pgn_nil)))) ha (fun d h => stT3n h) (fun d ρ' h => by obtain ⟨a, b, c, rfl, rfl⟩ := stT3 h; exact hr a b c) hs hw
theorem stT4 {i j l m : Nat} {d : D} {ρ' : List Sl} (h : stT 4 [i, j, l, m] ρ d = some ρ') : ∃ a b c e, d = .tuple [a, b, c, e] ∧ ρ' = (((ρ.set i (.d a)).set j (.d b)).set l (.d c)).set m (.d e) := by
  cases d with
  | tuple xs =>
    unfold stT at h
    match xs, h with
    | [a, b, c, e], h => cases h; exact ⟨a, b, c, e, rfl, rfl⟩
    | [], h => cases h
    | [_], h => cases h
    | [_, _], h => cases h
    | [_, _, _], h => cases h
    | _ :: _ :: _ :: _ :: _ :: _, h => simp at h
  | _ => cases h
theorem stT4n {i j l m : Nat} {d : D} {α : Type} {f : D → D → D → D → R α} (h : stT 4 [i, j, l, m] ρ d = none) : unp4 d f = bad := by
  cases d with
  | tuple xs =>
    match xs with
    | [a, b, c, e] => cases h
    | [] => rfl
    | [_] => rfl
    | [_, _] => rfl
    | [_, _, _] => rfl
    | _ :: _ :: _ :: _ :: _ :: _ => rfl
  | _ => rfl
theorem run_unp4 [Calm wd] (c : Cd CX k wd N sc X) {i j l m : Nat} {x y z w : Str} {kt : Nat} {pt px py pz pw spos : Pos} {o : D → D → D → D → R (Out S B T)} (hx : lcB sc x = true) (hN : N[i]? = some x) (hy : lcB sc y = true) (hN2 : N[j]? = some y) (hz : lcB sc z = true) (hN3 : N[l]? = some z) (hw' : lcB sc w = true) (hN4 : N[m]? = some w) (ha : Ev X wd ρ e ra)
    (hr : ∀ a b d e, Run X wd eS eB eT ((((ρ.set i (.d a)).set j (.d b)).set l (.d d)).set m (.d e)) rest (o a b d e)) (hs : swapsWithSole [.Tuple [.Name x px, .Name y py, .Name z pz, .Name w pw] kt pt] e spos.line X.env = pure false := by rfl) (hw : swappedStores [.Tuple [.Name x px, .Name y py, .Name z pz, .Name w pw] kt pt] e X.env = pure none := by rfl) :
    Run X wd eS eB eT ρ (.Assign [.Tuple [.Name x px, .Name y py, .Name z pz, .Name w pw] kt pt] e spos :: rest) (ra.bind fun d => unp4 d o) :=
  unp_core c (is := [i, j, l, m]) (pg_tup c.calm (pgn_cons c hx hN (pgn_cons c hy hN2 (pgn_cons c hz hN3 (pgn_cons c hw' hN4 pgn_nil))))) ha (fun d h => stT4n h) (fun d ρ' h => by obtain ⟨a, b, c, e, rfl, rfl⟩ := stT4 h; exact hr a b c e) hs hw
/-- x += e, x -= e of ints -/
def iaddR : D → D → R D
  | .int i, .int j => R.ret (.int (i + j))
  | _, _ => bad
theorem aug_core {op : Operator} {fi : Int → Int → Int} {g : D → D → R D} (hop : PIp X op (ipI fi)) (hg : ∀ x y, (∃ i j, x = .int i ∧ y = .int j ∧ g x y = R.ret (.int (fi i j))) ∨ g x y = bad)
    (c : Cd CX k wd N sc X) {i : Nat} {x : Str} {o : D → R (Out S B T)} {d0 : D} (hx : lcB sc x = true) (hN : N[i]? = some x) (hρ : ρ[i]? = some (.d d0)) (ha : Ev X wd ρ e ra) (hr : ∀ d, Run X wd eS eB eT (ρ.set i (.d d)) rest (o d)) :
    Run X wd eS eB eT ρ (.AugAssign (.Name x p) op e pos :: rest) (ra.bind fun y => (g d0 y).bind o) := fun F ad σ H Dn st q => by
  refine bss (pss_cons (ps_aug c.nd' (c.at hN) (c.loc hx) pe_b hop (.inl (c.fn x))) pss_b) ?_
  obtain ⟨v, ev, rv⟩ := SlOk.at st hρ
  refine ⟨v, ev, step_ev (o := fun y => (g d0 y).bind o) ha st q fun d w H' g1 r q => ?_⟩
  rcases hg d0 d with ⟨a1, b1, rfl, rfl, e3⟩ | e3
  · rw [e3] at q
    cases rv
    cases r
    exact ⟨a1, b1, rfl, rfl, hr _ F ad _ H' Dn ((st.grow g1).set (.int _)) (wp_adv .set q)⟩
  · rw [e3] at q; exact q.elim
theorem run_iadd (c : Cd CX k wd N sc X) {i : Nat} {x : Str} {o : D → R (Out S B T)} {d0 : D} (hx : lcB sc x = true) (hN : N[i]? = some x) (hρ : ρ[i]? = some (.d d0)) (ha : Ev X wd ρ e ra) (hr : ∀ d, Run X wd eS eB eT (ρ.set i (.d d)) rest (o d)) :
    Run X wd eS eB eT ρ (.AugAssign (.Name x p) .Add e pos :: rest) (ra.bind fun y => (iaddR d0 y).bind o) :=
  aug_core ip_add (fun x y => by cases x <;> cases y <;> first | exact .inl ⟨_, _, rfl, rfl, rfl⟩ | exact .inr rfl) c hx hN hρ ha hr
theorem run_isub (c : Cd CX k wd N sc X) {i : Nat} {x : Str} {o : D → R (Out S B T)} {d0 : D} (hx : lcB sc x = true) (hN : N[i]? = some x) (hρ : ρ[i]? = some (.d d0)) (ha : Ev X wd ρ e ra) (hr : ∀ d, Run X wd eS eB eT (ρ.set i (.d d)) rest (o d)) :
    Run X wd eS eB eT ρ (.AugAssign (.Name x p) .Sub e pos :: rest) (ra.bind fun y => (subR d0 y).bind o) :=
  aug_core ip_sub (fun x y => by cases x <;> cases y <;> first | exact .inl ⟨_, _, rfl, rfl, rfl⟩ | exact .inr rfl) c hx hN hρ ha hr
/-! ### owned lists: append, return -/
/-- xs.append(e), xs owned -/
def appR (xs : List D) (d : D) : R (List D) := if xs.length < sizeLine then R.ret (xs ++ [d]) else bad
theorem run_app (c : Cd CX k wd N sc X) {i : Nat} {x : Str} {apos : Pos} {xs : List D} {o : List D → R (Out S B T)} (hx : visB sc x = true) (hN : N[i]? = some x) (hρ : ρ[i]? = some (.l xs)) (ha : Ev X wd ρ e ra) (hr : ∀ ys, Run X wd eS eB eT (ρ.set i (.l ys)) rest (o ys))
    (hbase : attributeBase (.Name x p) "append" X.env (eval (.Name x p) X.env) = eval (.Name x p) X.env := by rfl) (hline : (apos.endLine == pos.line) = true := by rfl) (he : starEach (e :: []) X.env = (false, eval e X.env) :: starEach [] X.env := by rfl) :
    Run X wd eS eB eT ρ (.Expr (.Call (.Attribute (.Name x p) "append" apos) [e] [] pos) py :: rest) (ra.bind fun d => (appR xs d).bind o) := fun F ad σ H Dn st q => by
  obtain ⟨v1, v2, v3⟩ := c.vis hx
  obtain ⟨ev, vs, e2, rr⟩ := st.sl i _ hρ
  refine bss (pss_cons (ps_expr (pe_bm PySem.F.plainAttrs_list PySem.F.slot_list_append PySem.F.type_list_append mt_append (pe_var (i := i) (c.at hN) v1 v2 v3) (pa_cons pe_b pa_nil he) hbase (by rw [he]; rfl) hline he rfl)) pss_b) ?_
  refine ⟨_, ev, .inl ⟨rfl, _, .of e2⟩, step_ev (o := fun d => (appR xs d).bind o) ha st q fun d v H' g r q => ?_⟩
  unfold appR at q
  rw [wp_bind] at q
  obtain ⟨hz, q⟩ := wp_ite q
  have st' := st.grow g
  obtain ⟨ev', vs', e2', rr'⟩ := st'.sl i _ hρ
  have ow : Own ρ i := ⟨_, hρ, rfl⟩
  refine ⟨ad i, vs', v, rfl, rfl, e2', by rw [rr'.length]; exact hz, ?_⟩
  refine hr _ F ad σ _ Dn (st'.mut ow rfl ⟨ev', _, upd_same, ?_⟩) (wp_adv (.mut st' ow) q)
  refine (rr'.append (.cons r .nil)).stay fun b u eb nb => ?_
  rw [upd_ne fun z => nb (by rw [z]; exact .inr ⟨i, ow, rfl⟩)]
  exact eb
theorem run_retO (c : Cd CX k wd N sc X) {i : Nat} {x : Str} {xs : List D} {t : T} (hx : visB sc x = true) (hN : N[i]? = some x) (hρ : ρ[i]? = some (.l xs)) (ht : ∀ (j : Nat) (s : Sl), (eT t)[j]? = some s → s.own = true → j ≠ i ∧ ρ[j]? = some s) :
    Run X wd eS eB eT ρ [.Return (some (.Name x p)) pos] (R.ret (.rt (.list xs) t)) := fun F ad σ H Dn st q => by
  obtain ⟨v1, v2, v3⟩ := c.vis hx
  obtain ⟨ev, vs, e2, rr⟩ := st.sl i _ hρ
  refine bss (pss_one (ps_ret (pe_var (i := i) (c.at hN) v1 v2 v3))) ⟨_, ev, ?_⟩
  have hl : Le (ρ.set i .no) ρ := ⟨by simp, fun j s e => by
    by_cases hj : j = i
    · subst hj
      by_cases hl : j < ρ.length
      · rw [List.getElem?_set_self hl] at e; cases e; exact .inl rfl
      · rw [List.getElem?_eq_none (by simpa using hl)] at e; cases e
    · rw [List.getElem?_set_ne (Ne.symm hj)] at e
      exact .inr (.inl e)⟩
  refine q _ ad (ρ.set i .no) σ H (.less fun _ => hl.own) (st.le hl) (fun j s e o => ?_) (.inl (.lst (.inl e2) (fun z => ?_) (rr.weak fun b => hl.ban)))
  · obtain ⟨h1, h2⟩ := ht j s e o
    rw [List.getElem?_set_ne (Ne.symm h1)]
    exact h2
  · rcases z with z | ⟨j, o, ej⟩
    · exact st.nf i ⟨_, hρ, rfl⟩ z
    · have hji := st.inj j i (hl.own o) ⟨_, hρ, rfl⟩ ej
      subst hji
      obtain ⟨s, e, q⟩ := o
      have hlen : j < ρ.length := by
        by_cases hl : j < ρ.length
        · exact hl
        · rw [List.getElem?_eq_none (by omega)] at hρ; cases hρ
      rw [List.getElem?_set_self hlen] at e
      cases e; cases q
/-! ### defs by their bodies -/
def l1 {α : Type} (f : D → R α) : List D → R α
  | [a] => f a
  | _ => bad
def l2 {α : Type} (f : D → D → R α) : List D → R α
  | [a, b] => f a b
  | _ => bad
def l3 {α : Type} (f : D → D → D → R α) : List D → R α
  | [a, b, c] => f a b c
  | _ => bad
def l4 {α : Type} (f : D → D → D → D → R α) : List D → R α
  | [a, b, c, e] => f a b c e
  | _ => bad
def l5 {α : Type} (f : D → D → D → D → D → R α) : List D → R α
  | [a, b, c, e, g] => f a b c e g
  | _ => bad
def l0 {α : Type} (f : R α) : List D → R α
  | [] => f
  | _ => bad
/-- a def of the program, as its callers see it -/
structure Df (P : Program) (w : World) (K : PySem.W.Frag) (mg : Str → Option Value) (base : Heap) (CX : CXT) (j : Nat) (x : Str) (sp : Sp) : Prop where
  ok : ∃ (f : Addr) (fd : FuncData) (ps : List Str), mg x = some (.ref f) ∧ PySem.W.keepIn K (.ref f) = true ∧ Binds K fd ps [] ∧ FnOk P w K mg base CX j f fd ps sp
theorem Df.dn (h : Df X.prog X.w X.K X.mg X.base CX k x sp) : Dn X CX k x sp := ⟨h.ok⟩
/-- a def, and its code object where it has a table -/
structure FunC (K : PySem.W.Frag) (x : Str) (st : Stmt) (f : Addr) (fd : FuncData) : Prop extends Fun K x x st f fd where
  code : ∀ c P, PySem.W.tabIn K x = some (c, P) → fd.code = .ref c
def CodeX (K : PySem.W.Frag) (x : Str) (X : Cx) : Prop := ∀ c P, PySem.W.tabIn K x = some (c, P) → X.env.code = .ref c
theorem FunC.okT {P : Program} {w : World} {K : PySem.W.Frag} {mg : Str → Option Value} {base : Heap} {x : Str} {st : Stmt} {f : Addr} {fd : FuncData} {N ps : List Str} {k : Nat} {sp : Sp} (F : FunC K x st f fd) (S : FnScope N ps (defScope st)) (len : ∀ vs H Q E, sp vs H Q E → vs.length = ps.length)
    (hbody : ∀ (cdv : Value), (∀ c P, PySem.W.tabIn K x = some (c, P) → cdv = .ref c) → ∀ (A : Around) (outer : List Env) (s : Shared) (H : Hp) (vs : List V) (Q : VK) (E : XK), Room k (A.deeper (envOfC x (defScope st) s.heap.objs.size f cdv)) → sp vs H Q E →
      ∃ t, PSs (cxOf CX0 P w K mg base N x (defScope st) f cdv A outer s H E).nox (defBody st) t ∧ t { nx := fun _ H' => Q .non H', rt := Q } (start N vs) H) : FnOk P w K mg base CX0 (k + 1) f fd ps sp := by
  have hc := F.code
  obtain ⟨oc, od, kV, doc, pm, an, cdv, ct, osl, rfl, lk, hcd⟩ := F.ex
  refine fn_of lk hcd S len fun A outer s H vs Q E hr hsp => ?_
  obtain ⟨t, h, q⟩ := hbody cdv hc A outer s H vs Q E hr hsp
  exact ⟨t, h.nox, q⟩
/-- where a def of the text stands -/
structure At (K : PySem.W.Frag) (mg : Str → Option Value) (x : Str) (st : Stmt) (ps : List Str) : Prop where
  ok : ∃ (f : Addr) (fd : FuncData), mg x = some (.ref f) ∧ PySem.W.keepIn K (.ref f) = true ∧ Binds K fd ps [] ∧ FunC K x st f fd
/-- the errors of a law: none leaves a def, or as CX says -/
def noE : Nat → Value × Option Str := fun _ => (.none, none)
def wd0 : Wd := ⟨none, fun _ _ _ => False, noE, fun _ => false, false, true⟩
instance : Calm wd0 := ⟨rfl⟩
end
section
variable {P : Program} {w : World} {K : PySem.W.Frag} {mg : Str → Option Value} {base : Heap} {N ps : List Str} {x : Str} {st : Stmt} {k : Nat}
def slots (N : List Str) (ds : List D) : List Sl := ds.map .d ++ List.replicate (N.length - ds.length) .no
theorem slots_own {ds : List D} {i : Nat} : ¬ Own (slots N ds) i := by
  rintro ⟨s, e, q⟩
  unfold slots at e
  by_cases h : i < ds.length
  · rw [List.getElem?_append_left (by simpa using h), List.getElem?_map] at e
    cases e2 : ds[i]? with
    | none => rw [e2] at e; cases e
    | some d => rw [e2] at e; cases e; cases q
  · rw [List.getElem?_append_right (by simpa using h), List.getElem?_replicate] at e
    split at e
    · cases e; cases q
    · cases e
theorem start_ok {B : Addr → Prop} {H : Hp} {vs : List V} {ds : List D} {ad : Nat → Addr} (nb : Fo K H B) (r : Reps K B H vs ds) (hl : ds.length ≤ N.length) : StOk K none B (slots N ds) (L2.start N vs) H ad := by
  have hvl := r.length
  refine ⟨?_, fun i j o => absurd o slots_own, fun i o => absurd o slots_own, nb.b, fun a l e => (by cases e), nb.t, fun i s e => ?_⟩
  · unfold L2.start slots
    simp only [List.length_append, List.length_map, List.length_replicate]
    omega
  · have hb : ∀ b, Ban B (slots N ds) ad b → B b := by
      rintro b (b | ⟨j, o, _⟩)
      · exact b
      · exact absurd o slots_own
    unfold slots at e
    by_cases h : i < ds.length
    · rw [List.getElem?_append_left (by simpa using h), List.getElem?_map] at e
      cases e2 : ds[i]? with
      | none => rw [e2] at e; cases e
      | some d =>
        rw [e2] at e
        cases e
        obtain ⟨v, ev, rv⟩ := r.get e2
        refine ⟨v, ?_, rv.weak hb⟩
        unfold L2.start
        rw [List.getElem?_append_left (by rw [List.length_map, hvl]; exact h), List.getElem?_map, ev]
        rfl
    · rw [List.getElem?_append_right (by simpa using h), List.getElem?_replicate] at e
      split at e
      · cases e; trivial
      · cases e
/-- a def that raises nothing, by its body -/
theorem df_of (A : At K mg x st ps) (S : FnScope N ps (defScope st)) {m : List D → R D} {T : Type} {eT : T → List Sl} {o : List D → R (Out Unit Empty T)}
    (hm : ∀ ds, ds.length = ps.length → m ds = endR0 (o ds)) {eN : Unit → List Sl} {eB : Empty → List Sl}
    (hrun : ∀ (X : Cx), Cd CX0 k wd0 N (defScope st) X → X.prog = P → X.w = w → X.K = K → X.mg = mg → X.base = base → CodeX K x X → ∀ ds, ds.length = ps.length → Run X wd0 eN eB eT (slots N ds) (defBody st) (o ds)) :
    Df P w K mg base CX0 (k + 1) x (spP K ps.length m) := by
  obtain ⟨f, fd, h1, h2, h3, F⟩ := A.ok
  refine ⟨f, fd, ps, h1, h2, h3, F.okT S (fun vs H Q E h => ?_) (fun cdv hcd A outer s H vs Q E hr h => ?_)⟩
  · obtain ⟨B, ds, _, hl, r, _⟩ := h
    rw [r.length, hl]
  · obtain ⟨B, ds, nb, hl, r, q⟩ := h
    refine ⟨_, pss_b, ?_⟩
    have hN : ps.length ≤ N.length := by have := congrArg List.length S.pre; rw [List.length_take] at this; omega
    have st0 := start_ok (K := K) (N := N) (ad := fun _ => 0) nb r (by omega)
    rw [hm ds hl] at q
    unfold endR0 at q
    rw [wp_bind] at q
    refine hrun ((cxOf CX0 P w K mg base N x (defScope st) f cdv A outer s H E).nox) ⟨⟨rfl, rfl, S.nd, fun _ => rfl, un_of hr, fun _ => hr, PassesOwn.never, pass0⟩, fun _ => rfl, S.kind, rfl, rfl⟩ rfl rfl rfl rfl rfl hcd ds hl B (fun _ => 0) _ H _ st0 (wp_mono (fun z q => ?_) (fun c x z => z.elim) q)
    · cases z with
      | nx u => exact fun ad' σ' H' a s' => q _ H' (fun b o e => (a.keep b o e has_none fun ⟨i, o, _⟩ => slots_own o).1) .non
      | bk b => exact b.elim
      | ct b => exact b.elim
      | rt d t => exact fun v ad' ρ' σ' H' a s' _ r => q v H' (fun b o e => (a.keep b o e has_none fun ⟨i, o, _⟩ => slots_own o).1) ((r.rep rfl).weak fun b => .inl)
/-! ### defs that draw -/
def wdD (a : Addr × Addr) : Wd := ⟨some a, fun _ _ _ => False, noE, fun _ => false, false, true⟩
instance {a : Addr × Addr} : Calm (wdD a) := ⟨rfl⟩
theorem noW0 : NoW wd0 := ⟨rfl, fun _ => rfl⟩
theorem noWD (a : Addr × Addr) : NoW (wdD a) := ⟨rfl, fun _ => rfl⟩
def slotsD (N : List Str) (ds : List D) : List Sl := .w :: (ds.map .d ++ List.replicate (N.length - 1 - ds.length) .no)
theorem slotsD_own {ds : List D} {i : Nat} : ¬ Own (slotsD N ds) i := by
  rintro ⟨s, e, q⟩
  unfold slotsD at e
  cases i with
  | zero => cases e; cases q
  | succ i =>
    rw [List.getElem?_cons_succ] at e
    by_cases h : i < ds.length
    · rw [List.getElem?_append_left (by simpa using h), List.getElem?_map] at e
      cases e2 : ds[i]? with
      | none => rw [e2] at e; cases e
      | some d => rw [e2] at e; cases e; cases q
    · rw [List.getElem?_append_right (by simpa using h), List.getElem?_replicate] at e
      split at e
      · cases e; cases q
      · cases e
theorem startD_ok {B : Addr → Prop} {H : Hp} {vs : List V} {ds : List D} {ad : Nat → Addr} {a l : Addr} (nb : Fo K H B) (ba : B a) (bl : B l) (ne : l ≠ a) (da : DrAt H a l) (r : Reps K B H vs ds) (hl : ds.length + 1 ≤ N.length) :
    StOk K (some (a, l)) B (slotsD N ds) (L2.start N (.ref a :: vs)) H ad := by
  have hvl := r.length
  refine ⟨?_, fun i j o => absurd o slotsD_own, fun i o => absurd o slotsD_own, nb.b, fun b l e => ?_, nb.t, fun i s e => ?_⟩
  · unfold L2.start slotsD
    simp only [List.length_append, List.length_map, List.length_replicate, List.length_cons]
    omega
  · cases e; exact ⟨ba, bl, ne, da⟩
  · have hb : ∀ b, Ban B (slotsD N ds) ad b → B b := by
      rintro b (b | ⟨j, o, _⟩)
      · exact b
      · exact absurd o slotsD_own
    unfold slotsD at e
    cases i with
    | zero => cases e; exact ⟨a, l, rfl, by unfold L2.start; rfl⟩
    | succ i =>
      rw [List.getElem?_cons_succ] at e
      by_cases h : i < ds.length
      · rw [List.getElem?_append_left (by simpa using h), List.getElem?_map] at e
        cases e2 : ds[i]? with
        | none => rw [e2] at e; cases e
        | some d =>
          rw [e2] at e
          cases e
          obtain ⟨v, ev, rv⟩ := r.get e2
          refine ⟨v, ?_, rv.weak hb⟩
          unfold L2.start
          rw [List.map_cons, List.cons_append, List.getElem?_cons_succ, List.getElem?_append_left (by rw [List.length_map, hvl]; exact h), List.getElem?_map, ev]
          rfl
      · rw [List.getElem?_append_right (by simpa using h), List.getElem?_replicate] at e
        split at e
        · cases e; trivial
        · cases e
theorem df_ofD (A : At K mg x st ps) (S : FnScope N ps (defScope st)) {m : List D → R D} {T : Type} {eT : T → List Sl} {n : Nat} (hn : ps.length = n + 1) {o : List D → R (Out Unit Empty T)}
    (hm : ∀ ds, ds.length = n → m ds = endR0 (o ds)) {eN : Unit → List Sl} {eB : Empty → List Sl}
    (hrun : ∀ (X : Cx) (a : Addr × Addr), Cd CX0 k (wdD a) N (defScope st) X → X.prog = P → X.w = w → X.K = K → X.mg = mg → X.base = base → ∀ ds, ds.length = n → Run X (wdD a) eN eB eT (slotsD N ds) (defBody st) (o ds)) :
    Df P w K mg base CX0 (k + 1) x (spD K n m) := by
  obtain ⟨f, fd, h1, h2, h3, F⟩ := A.ok
  refine ⟨f, fd, ps, h1, h2, h3, F.ok S (fun vs H Q E h => ?_) (fun cdv A outer s H vs Q E hr h => ?_)⟩
  · obtain ⟨B, a, l, vs', ds, _, rfl, _, _, _, _, hl, r, _⟩ := h
    rw [List.length_cons, r.length, hl, hn]
  · obtain ⟨B, a, l, vs', ds, nb, rfl, ba, bl, ne, da, hl, r, q⟩ := h
    refine ⟨_, pss_b, ?_⟩
    have hN : ps.length ≤ N.length := by have := congrArg List.length S.pre; rw [List.length_take] at this; omega
    have st0 := startD_ok (K := K) (N := N) (ad := fun _ => 0) nb ba bl ne da r (by omega)
    rw [hm ds hl] at q
    unfold endR0 at q
    rw [wp_bind] at q
    have gr : ∀ {ρ' : List Sl} {ad' : Nat → Addr} {H' : Hp}, Adv (wdD (a, l)) (slotsD N ds) (fun _ => 0) H ρ' ad' H' → Grow (some (a, l)) H H' := fun {ρ' ad' H'} z => ⟨fun b o e n => (z.keep b o e n fun ⟨i, o, _⟩ => slotsD_own o).1, z.draw⟩
    refine hrun ((cxOf CX0 P w K mg base N x (defScope st) f cdv A outer s H E).nox) (a, l) ⟨⟨rfl, rfl, S.nd, fun _ => rfl, un_of hr, fun _ => hr, PassesOwn.never, pass0⟩, fun _ => rfl, S.kind, rfl, rfl⟩ rfl rfl rfl rfl rfl ds hl B (fun _ => 0) _ H _ st0 (wp_mono (fun z q => ?_) (fun c x z => z.elim) q)
    cases z with
    | nx u => exact fun ad' σ' H' a s' => q _ H' (gr a) .non
    | bk b => exact b.elim
    | ct b => exact b.elim
    | rt d t => exact fun v ad' ρ' σ' H' a s' _ r => q v H' (gr a) ((r.rep rfl).weak fun b => .inl)
/-- a def of which nothing is known -/
theorem df_bad (A : At K mg x st ps) {j n : Nat} {m : List D → R D} (hm : ∀ ds, m ds = bad) : Df P w K mg base CX0 j x (spP K n m) := by
  obtain ⟨f, fd, h1, h2, h3, F⟩ := A.ok
  have no : ∀ {vs H Q E}, ¬ spP K n m vs H Q E := fun {vs H Q E} ⟨B, ds, _, _, _, q⟩ => by rw [hm] at q; exact q
  exact ⟨f, fd, ps, h1, h2, h3, fun vs H Q E h => absurd h no, fun A outer s H args us vs Q E _ _ _ _ h => absurd h no⟩
theorem df_badD (A : At K mg x st ps) {j n : Nat} {m : List D → R D} (hm : ∀ ds, m ds = bad) : Df P w K mg base CX0 j x (spD K n m) := by
  obtain ⟨f, fd, h1, h2, h3, F⟩ := A.ok
  have no : ∀ {vs H Q E}, ¬ spD K n m vs H Q E := fun {vs H Q E} ⟨B, a, l, vs', ds, _, _, _, _, _, _, _, _, q⟩ => by rw [hm] at q; exact q
  exact ⟨f, fd, ps, h1, h2, h3, fun vs H Q E h => absurd h no, fun A outer s H args us vs Q E _ _ _ _ h => absurd h no⟩
end
/-- the built-ins that a law's module leaves as they are -/
structure Bt (mg : Str → Option Value) : Prop where
  len : mg "len" = none
  range : mg "range" = none
  tuple : mg "tuple" = none
  list : mg "list" = none
  sum : mg "sum" = none
  max : mg "max" = none
  min : mg "min" = none
  abs : mg "abs" = none
  int : mg "int" = none
  str : mg "str" = none
  all : mg "all" = none
  any : mg "any" = none
  isinstance : mg "isinstance" = none
  bool : mg "bool" = none
  sorted : mg "sorted" = none
section
variable {CX : CXT} {k : Nat} {wd : Wd} {N : List Str} {sc : Scope} {X : Cx} {ρ : List Sl} {e a b : Expr} {pos p : Pos} {ra rb : R D}
theorem bv_len : bootBuiltins "len" = some (.builtin "len") := by decide +kernel
theorem bv_tuple : bootBuiltins "tuple" = some (.type "tuple") := by decide +kernel
theorem bv_list : bootBuiltins "list" = some (.type "list") := by decide +kernel
theorem bv_sum : bootBuiltins "sum" = some (.builtin "sum") := by decide +kernel
theorem bv_max : bootBuiltins "max" = some (.builtin "max") := by decide +kernel
theorem bv_min : bootBuiltins "min" = some (.builtin "min") := by decide +kernel
theorem bv_abs : bootBuiltins "abs" = some (.builtin "abs") := by decide +kernel
theorem bv_int : bootBuiltins "int" = some (.type "int") := by decide +kernel
theorem bv_str : bootBuiltins "str" = some (.type "str") := by decide +kernel
theorem bv_bool : bootBuiltins "bool" = some (.type "bool") := by decide +kernel
theorem bv_all : bootBuiltins "all" = some (.builtin "all") := by decide +kernel
theorem bv_any : bootBuiltins "any" = some (.builtin "any") := by decide +kernel
theorem bv_isi : bootBuiltins "isinstance" = some (.builtin "isinstance") := by decide +kernel
theorem ev_len (c : Cw CX k wd N sc X) (B : Bt X.mg) (hg : glB sc "len" = true) (ha : EvB X wd ρ a ra) (he : Plain X a := by exact fun _ => rfl) : Ev X wd ρ (.Call (.Name "len" p) [a] [] pos) (ra.bind fun x => lenR x) := ev_b1 c call_len calS_len hg B.len bv_len ha he
theorem ev_tuple (c : Cw CX k wd N sc X) (B : Bt X.mg) (hg : glB sc "tuple" = true) (ha : EvB X wd ρ a ra) (he : Plain X a := by exact fun _ => rfl) : Ev X wd ρ (.Call (.Name "tuple" p) [a] [] pos) (ra.bind fun x => tupleR x) := ev_t1 c call_tuple_of calS_tuple hg B.tuple bv_tuple ha he
theorem ev_list (c : Cw CX k wd N sc X) (B : Bt X.mg) (hg : glB sc "list" = true) (ha : EvB X wd ρ a ra) (he : Plain X a := by exact fun _ => rfl) : Ev X wd ρ (.Call (.Name "list" p) [a] [] pos) (ra.bind fun x => listR x) := ev_t1 c call_list_of calS_list hg B.list bv_list ha he
theorem ev_sum [Calm wd] (c : Cw CX k wd N sc X) (B : Bt X.mg) (hg : glB sc "sum" = true) (ha : EvB X wd ρ a ra) (he : Plain X a := by exact fun _ => rfl) : Ev X wd ρ (.Call (.Name "sum" p) [a] [] pos) (ra.bind fun x => sumR x) := ev_b1 c (cr_sumT c.calm) calS_sum hg B.sum bv_sum ha he
theorem ev_all [Calm wd] (c : Cw CX k wd N sc X) (B : Bt X.mg) (hg : glB sc "all" = true) (ha : EvB X wd ρ a ra) (he : Plain X a := by exact fun _ => rfl) : Ev X wd ρ (.Call (.Name "all" p) [a] [] pos) (ra.bind fun x => allR x) := ev_b1 c (cr_all c.calm) calS_all hg B.all bv_all ha he
theorem ev_any [Calm wd] (c : Cw CX k wd N sc X) (B : Bt X.mg) (hg : glB sc "any" = true) (ha : EvB X wd ρ a ra) (he : Plain X a := by exact fun _ => rfl) : Ev X wd ρ (.Call (.Name "any" p) [a] [] pos) (ra.bind fun x => anyR x) := ev_b1 c (cr_any c.calm) calS_any hg B.any bv_any ha he
theorem ev_abs (c : Cw CX k wd N sc X) (B : Bt X.mg) (hg : glB sc "abs" = true) (ha : EvB X wd ρ a ra) (he : Plain X a := by exact fun _ => rfl) : Ev X wd ρ (.Call (.Name "abs" p) [a] [] pos) (ra.bind fun x => absR x) := ev_b1 c call_abs calS_abs hg B.abs bv_abs ha he
theorem ev_toint (c : Cw CX k wd N sc X) (B : Bt X.mg) (hg : glB sc "int" = true) (ha : EvB X wd ρ a ra) (he : Plain X a := by exact fun _ => rfl) : Ev X wd ρ (.Call (.Name "int" p) [a] [] pos) (ra.bind fun x => intR x) := ev_t1 c call_int1 calS_int hg B.int bv_int ha he
theorem ev_max [Calm wd] (c : Cw CX k wd N sc X) (B : Bt X.mg) (hg : glB sc "max" = true) (ha : EvB X wd ρ a ra) (hb : EvB X wd ρ b rb) (he : Plain X a := by exact fun _ => rfl) (he2 : Plain X b := by exact fun _ => rfl) : Ev X wd ρ (.Call (.Name "max" p) [a, b] [] pos) (ra.bind fun x => rb.bind fun y => maxR x y) := ev_b2 c (call_max2 c.calm) calS_max hg B.max bv_max ha hb he he2
theorem ev_min [Calm wd] (c : Cw CX k wd N sc X) (B : Bt X.mg) (hg : glB sc "min" = true) (ha : EvB X wd ρ a ra) (hb : EvB X wd ρ b rb) (he : Plain X a := by exact fun _ => rfl) (he2 : Plain X b := by exact fun _ => rfl) : Ev X wd ρ (.Call (.Name "min" p) [a, b] [] pos) (ra.bind fun x => rb.bind fun y => minR x y) := ev_b2 c (call_min2 c.calm) calS_min hg B.min bv_min ha hb he he2
theorem evi_r1 (c : Cw CX k wd N sc X) (B : Bt X.mg) {tg : Expr} (hg : glB sc "range" = true) (ha : EvB X wd ρ a ra) (he : Plain X a := by exact fun _ => rfl) : EvI X wd ρ tg (.Call (.Name "range" p) [a] [] pos) (ra.bind fun x => rng1R x) := evi_rng1 c hg B.range ha he
theorem evi_r2 (c : Cw CX k wd N sc X) (B : Bt X.mg) {tg : Expr} (hg : glB sc "range" = true) (ha : EvB X wd ρ a ra) (hb : EvB X wd ρ b rb) (he : Plain X a := by exact fun _ => rfl) (he2 : Plain X b := by exact fun _ => rfl) : EvI X wd ρ tg (.Call (.Name "range" p) [a, b] [] pos) (ra.bind fun x => rb.bind fun y => rng2R x y) := evi_rng2 c hg B.range ha hb he he2
end
end Pu
/-! Pw: the rules as the printer uses them. -/
namespace Pu
open PySem PySem.Spec PyProof.Rows L2 R
theorem ht0 {ρ : List Sl} : ∀ (i : Nat) (s : Sl), (([] : List Sl)[i]? = some s) → s.own = true → ρ[i]? = some s := fun i s h => by simp at h
theorem ht0' {ρ : List Sl} {k : Nat} : ∀ (i : Nat) (s : Sl), (([] : List Sl)[i]? = some s) → s.own = true → i ≠ k ∧ ρ[i]? = some s := fun i s h => by simp at h
theorem cx0F : ∀ (outer : List Env) (H : Hp) (s : Shared) (e : Value) (s' : Shared), CX0 outer H s (fun _ _ _ => False) e s' → False := fun _ _ _ _ _ h => h
theorem NoW.calm {wd : Wd} (h : NoW wd) : NoW wd.calm := ⟨rfl, h.x⟩
section
variable {CX : CXT} {k : Nat} {wd : Wd} {N : List Str} {sc : Scope} {X : Cx} {ρ : List Sl} {e a b c0 a1 a2 a3 a4 a5 a6 : Expr} {pos p : Pos} {ra rb rc r1 r2 r3 r4 r5 r6 : R D}
theorem szk {n : Nat} (h : n ≤ 1000) : n ≤ sizeLine := Nat.le_of_lt (small1000 h)
theorem ev_tup0 {x1 : Nat} : Ev X wd ρ (.Tuple [] x1 pos) (R.ret (.tuple [])) := (ev_tup eva_nil).eq (by simp)
theorem ev_tup1 {x1 : Nat} (h1 : Ev X wd ρ a1 r1) (s1 : Plain X a1 := by exact fun _ => rfl) : Ev X wd ρ (.Tuple [a1] x1 pos) (r1.bind fun x => R.ret (.tuple [x])) :=
  (ev_tup (eva_cons h1 eva_nil (s1 _))).eq (by simp [bind_assoc, szk])
theorem ev_tup2 {x1 : Nat} (h1 : Ev X wd ρ a1 r1) (h2 : Ev X wd ρ a2 r2) (s1 : Plain X a1 := by exact fun _ => rfl) (s2 : Plain X a2 := by exact fun _ => rfl) : Ev X wd ρ (.Tuple [a1, a2] x1 pos) (r1.bind fun x => r2.bind fun y => R.ret (.tuple [x, y])) :=
  (ev_tup (eva_cons h1 (eva_cons h2 eva_nil (s2 _)) (s1 _))).eq (by simp [bind_assoc, szk])
theorem ev_tup3 {x1 : Nat} (h1 : Ev X wd ρ a1 r1) (h2 : Ev X wd ρ a2 r2) (h3 : Ev X wd ρ a3 r3) (s1 : Plain X a1 := by exact fun _ => rfl) (s2 : Plain X a2 := by exact fun _ => rfl) (s3 : Plain X a3 := by exact fun _ => rfl) :
    Ev X wd ρ (.Tuple [a1, a2, a3] x1 pos) (r1.bind fun x => r2.bind fun y => r3.bind fun z => R.ret (.tuple [x, y, z])) :=
  (ev_tup (eva_cons h1 (eva_cons h2 (eva_cons h3 eva_nil (s3 _)) (s2 _)) (s1 _))).eq (by simp [bind_assoc, szk])
theorem ev_tup4 {x1 : Nat} (h1 : Ev X wd ρ a1 r1) (h2 : Ev X wd ρ a2 r2) (h3 : Ev X wd ρ a3 r3) (h4 : Ev X wd ρ a4 r4) (s1 : Plain X a1 := by exact fun _ => rfl) (s2 : Plain X a2 := by exact fun _ => rfl) (s3 : Plain X a3 := by exact fun _ => rfl) (s4 : Plain X a4 := by exact fun _ => rfl) :
    Ev X wd ρ (.Tuple [a1, a2, a3, a4] x1 pos) (r1.bind fun x => r2.bind fun y => r3.bind fun z => r4.bind fun w => R.ret (.tuple [x, y, z, w])) :=
  (ev_tup (eva_cons h1 (eva_cons h2 (eva_cons h3 (eva_cons h4 eva_nil (s4 _)) (s3 _)) (s2 _)) (s1 _))).eq (by simp [bind_assoc, szk])
theorem ev_tup5 {x1 : Nat} (h1 : Ev X wd ρ a1 r1) (h2 : Ev X wd ρ a2 r2) (h3 : Ev X wd ρ a3 r3) (h4 : Ev X wd ρ a4 r4) (h5 : Ev X wd ρ a5 r5) (s1 : Plain X a1 := by exact fun _ => rfl) (s2 : Plain X a2 := by exact fun _ => rfl) (s3 : Plain X a3 := by exact fun _ => rfl) (s4 : Plain X a4 := by exact fun _ => rfl) (s5 : Plain X a5 := by exact fun _ => rfl) :
    Ev X wd ρ (.Tuple [a1, a2, a3, a4, a5] x1 pos) (r1.bind fun x => r2.bind fun y => r3.bind fun z => r4.bind fun w => r5.bind fun u => R.ret (.tuple [x, y, z, w, u])) :=
  (ev_tup (eva_cons h1 (eva_cons h2 (eva_cons h3 (eva_cons h4 (eva_cons h5 eva_nil (s5 _)) (s4 _)) (s3 _)) (s2 _)) (s1 _))).eq (by simp [bind_assoc, szk])
theorem EvL.eq {r r' : R (List D)} (h : EvL X wd ρ e r) (q : r = r') : EvL X wd ρ e r' := q ▸ h
theorem evl_nil : EvL X wd ρ (.List [] pos) (R.ret []) := (evl_lst eva_nil).eq (by simp)
theorem eva_consP {e : Expr} {es : List Expr} {r : R D} {rs : R (List D)} (h : Ev X wd ρ e r) (t : EvA X wd ρ es rs) (s : Plain X e := by exact fun _ => rfl) : EvA X wd ρ (e :: es) (r.bind fun d => rs.bind fun ds => R.ret (d :: ds)) := eva_cons h t (s _)
theorem evl_lst1 (h1 : Ev X wd ρ a1 r1) (s1 : Plain X a1 := by exact fun _ => rfl) : EvL X wd ρ (.List [a1] pos) (r1.bind fun x => R.ret [x]) :=
  (evl_lst (eva_cons h1 eva_nil (s1 _))).eq (by simp [bind_assoc, szk])
theorem evl_lst2 (h1 : Ev X wd ρ a1 r1) (h2 : Ev X wd ρ a2 r2) (s1 : Plain X a1 := by exact fun _ => rfl) (s2 : Plain X a2 := by exact fun _ => rfl) : EvL X wd ρ (.List [a1, a2] pos) (r1.bind fun x => r2.bind fun y => R.ret [x, y]) :=
  (evl_lst (eva_cons h1 (eva_cons h2 eva_nil (s2 _)) (s1 _))).eq (by simp [bind_assoc, szk])
theorem evl_lst3 (h1 : Ev X wd ρ a1 r1) (h2 : Ev X wd ρ a2 r2) (h3 : Ev X wd ρ a3 r3) (s1 : Plain X a1 := by exact fun _ => rfl) (s2 : Plain X a2 := by exact fun _ => rfl) (s3 : Plain X a3 := by exact fun _ => rfl) :
    EvL X wd ρ (.List [a1, a2, a3] pos) (r1.bind fun x => r2.bind fun y => r3.bind fun z => R.ret [x, y, z]) :=
  (evl_lst (eva_cons h1 (eva_cons h2 (eva_cons h3 eva_nil (s3 _)) (s2 _)) (s1 _))).eq (by simp [bind_assoc, szk])
theorem evl_lst4 (h1 : Ev X wd ρ a1 r1) (h2 : Ev X wd ρ a2 r2) (h3 : Ev X wd ρ a3 r3) (h4 : Ev X wd ρ a4 r4) (s1 : Plain X a1 := by exact fun _ => rfl) (s2 : Plain X a2 := by exact fun _ => rfl) (s3 : Plain X a3 := by exact fun _ => rfl) (s4 : Plain X a4 := by exact fun _ => rfl) :
    EvL X wd ρ (.List [a1, a2, a3, a4] pos) (r1.bind fun x => r2.bind fun y => r3.bind fun z => r4.bind fun w => R.ret [x, y, z, w]) :=
  (evl_lst (eva_cons h1 (eva_cons h2 (eva_cons h3 (eva_cons h4 eva_nil (s4 _)) (s3 _)) (s2 _)) (s1 _))).eq (by simp [bind_assoc, szk])
theorem evl_lst5 (h1 : Ev X wd ρ a1 r1) (h2 : Ev X wd ρ a2 r2) (h3 : Ev X wd ρ a3 r3) (h4 : Ev X wd ρ a4 r4) (h5 : Ev X wd ρ a5 r5) (s1 : Plain X a1 := by exact fun _ => rfl) (s2 : Plain X a2 := by exact fun _ => rfl) (s3 : Plain X a3 := by exact fun _ => rfl) (s4 : Plain X a4 := by exact fun _ => rfl) (s5 : Plain X a5 := by exact fun _ => rfl) :
    EvL X wd ρ (.List [a1, a2, a3, a4, a5] pos) (r1.bind fun x => r2.bind fun y => r3.bind fun z => r4.bind fun w => r5.bind fun u => R.ret [x, y, z, w, u]) :=
  (evl_lst (eva_cons h1 (eva_cons h2 (eva_cons h3 (eva_cons h4 (eva_cons h5 eva_nil (s5 _)) (s4 _)) (s3 _)) (s2 _)) (s1 _))).eq (by simp [bind_assoc, szk])
theorem evl_lst6 (h1 : Ev X wd ρ a1 r1) (h2 : Ev X wd ρ a2 r2) (h3 : Ev X wd ρ a3 r3) (h4 : Ev X wd ρ a4 r4) (h5 : Ev X wd ρ a5 r5) (h6 : Ev X wd ρ a6 r6) (s1 : Plain X a1 := by exact fun _ => rfl) (s2 : Plain X a2 := by exact fun _ => rfl) (s3 : Plain X a3 := by exact fun _ => rfl) (s4 : Plain X a4 := by exact fun _ => rfl) (s5 : Plain X a5 := by exact fun _ => rfl) (s6 : Plain X a6 := by exact fun _ => rfl) :
    EvL X wd ρ (.List [a1, a2, a3, a4, a5, a6] pos) (r1.bind fun x => r2.bind fun y => r3.bind fun z => r4.bind fun w => r5.bind fun u => r6.bind fun v => R.ret [x, y, z, w, u, v]) :=
  (evl_lst (eva_cons h1 (eva_cons h2 (eva_cons h3 (eva_cons h4 (eva_cons h5 (eva_cons h6 eva_nil (s6 _)) (s5 _)) (s4 _)) (s3 _)) (s2 _)) (s1 _))).eq (by simp [bind_assoc, szk])
/-- list + list, a new list -/
def catR : D → D → R (List D)
  | .list xs, .list ys => if xs.length + ys.length ≤ sizeLine then R.ret (xs ++ ys) else bad
  | _, _ => bad
theorem evl_cat (ha : EvB X wd ρ a ra) (hb : EvB X wd ρ b rb) : EvL X wd ρ (.BinOp a .Add b pos) (ra.bind fun x => rb.bind fun y => catR x y) := fun F ad σ H Q s q => by
  refine be (pe_op op_catR pe_b pe_b) ?_
  rw [wp_bind] at q
  refine ha F ad σ H _ s (wp_mono (fun d q v H1 g1 r1 => ?_) (fun _ _ z => z) q)
  rw [wp_bind] at q
  have s1 := s.grow g1
  refine hb F ad σ H1 _ s1 (wp_mono (fun d2 q v2 H2 g2 r2 => ?_) (fun _ _ z => z.grow g1) q)
  have s2 := s1.grow g2
  cases d with
  | list xs =>
    cases d2 with
    | list ys =>
      obtain ⟨h, q⟩ := wp_ite q
      obtain ⟨l1, v1, rfl, e1, t1⟩ := (r1.stay s1 g2).list
      obtain ⟨l2, v2, rfl, e2, t2⟩ := r2.list
      refine ⟨l1, l2, v1, v2, rfl, rfl, e1, e2, by rw [t1.length, t2.length]; exact h, fun p hp => ?_⟩
      refine q _ _ _ (g1.trans (g2.trans (Grow.same (same_upd hp)))) (free_grow s (g1.trans g2) hp) upd_same (((t1.append t2).ban fun b z => ?_).stay (same_stay (same_upd hp)))
      rcases z with z | rfl
      · exact .inl z
      · exact .inr hp
    | _ => exact q.elim
  | _ => cases d2 <;> exact q.elim
/-- list(a), a new list -/
def listL : D → R (List D)
  | .list xs => R.ret xs
  | .tuple xs => R.ret xs
  | _ => bad
theorem evl_list (c : Cw CX k wd N sc X) (B : Bt X.mg) (hg : glB sc "list" = true) (ha : EvB X wd ρ a ra) (he : Plain X a := by exact fun _ => rfl) : EvL X wd ρ (.Call (.Name "list" p) [a] [] pos) (ra.bind fun x => listL x) := fun F ad σ H Q s q => by
  refine be (pe_callTy call_list_of (c.gl hg).1 B.list bv_list (pa_cons pe_b pa_nil (he [])) (c.gl hg).2.2 (c.gl hg).2.1 (he []) rfl) ?_
  rw [wp_bind] at q
  refine ha F ad σ H _ s (wp_mono (fun d q v H1 g1 r1 => ?_) (fun _ _ z => z) q)
  have nb : ∀ {p : Addr} {vs : List V} {ds : List D}, H1 p = none → Reps X.K (Ban F ρ ad) H1 vs ds → Reps X.K (fun b => Ban F ρ ad b ∨ b = p) (upd H1 p (.lst vs)) vs ds := fun {p vs ds} hp r => (r.ban fun b z => by
    rcases z with z | rfl
    · exact .inl z
    · exact .inr hp).stay (same_stay (same_upd hp))
  cases d with
  | list xs =>
    obtain ⟨l1, v1, rfl, e1, t1⟩ := r1.list
    exact ⟨l1, v1, rfl, .inl (.inl e1), fun p hp => q _ _ _ (g1.trans (Grow.same (same_upd hp))) (free_grow s g1 hp) upd_same (nb hp t1)⟩
  | tuple xs =>
    obtain ⟨l1, v1, rfl, e1, t1⟩ := r1.tuple
    exact ⟨l1, v1, rfl, .inr e1.sq, fun p hp => q _ _ _ (g1.trans (Grow.same (same_upd hp))) (free_grow s g1 hp) upd_same (nb hp t1)⟩
  | _ => exact q.elim
/-- calls of defs by the number of arguments -/
theorem l1n {α : Type} {f : D → R α} : ∀ ds : List D, ds.length ≠ 1 → l1 f ds = bad := fun ds h => by
  match ds, h with
  | [], _ => rfl
  | [a], h => exact absurd rfl h
  | _ :: _ :: _, _ => rfl
theorem l2n {α : Type} {f : D → D → R α} : ∀ ds : List D, ds.length ≠ 2 → l2 f ds = bad := fun ds h => by
  match ds, h with
  | [], _ => rfl
  | [a], _ => rfl
  | [_, _], h => exact absurd rfl h
  | _ :: _ :: _ :: _, _ => rfl
theorem l3n {α : Type} {f : D → D → D → R α} : ∀ ds : List D, ds.length ≠ 3 → l3 f ds = bad := fun ds h => by
  match ds, h with
  | [], _ => rfl
  | [a], _ => rfl
  | [_, _], _ => rfl
  | [_, _, _], h => exact absurd rfl h
  | _ :: _ :: _ :: _ :: _, _ => rfl
theorem l4n {α : Type} {f : D → D → D → D → R α} : ∀ ds : List D, ds.length ≠ 4 → l4 f ds = bad := fun ds h => by
  match ds, h with
  | [], _ => rfl
  | [a], _ => rfl
  | [_, _], _ => rfl
  | [_, _, _], _ => rfl
  | [_, _, _, _], h => exact absurd rfl h
  | _ :: _ :: _ :: _ :: _ :: _, _ => rfl
theorem l5n {α : Type} {f : D → D → D → D → D → R α} : ∀ ds : List D, ds.length ≠ 5 → l5 f ds = bad := fun ds h => by
  match ds, h with
  | [], _ => rfl
  | [a], _ => rfl
  | [_, _], _ => rfl
  | [_, _, _], _ => rfl
  | [_, _, _, _], _ => rfl
  | [_, _, _, _, _], h => exact absurd rfl h
  | _ :: _ :: _ :: _ :: _ :: _ :: _, _ => rfl
theorem l0n {α : Type} {f : R α} : ∀ ds : List D, ds.length ≠ 0 → l0 f ds = bad := fun ds h => by
  match ds, h with
  | [], h => exact absurd rfl h
  | _ :: _, _ => rfl
variable {x : Str} {j : Nat}
theorem ev_call1 [Calm wd] (c : Cw CX k wd N sc X) (W : NoW wd) {m : D → R D} (G : Df X.prog X.w X.K X.mg X.base CX j x (spP X.K 1 (l1 m))) (hj : j ≤ k) (hg : glB sc x = true) (h1 : Ev X wd ρ a1 r1) (s1 : Plain X a1 := by exact fun _ => rfl) :
    Ev X wd ρ (.Call (.Name x p) [a1] [] pos) (r1.bind fun x => m x) := (ev_call c W G.dn hj hg (eva_cons h1 eva_nil (s1 _)) l1n (s1 _) rfl).eq (by simp [bind_assoc, l1])
theorem ev_call2 [Calm wd] (c : Cw CX k wd N sc X) (W : NoW wd) {m : D → D → R D} (G : Df X.prog X.w X.K X.mg X.base CX j x (spP X.K 2 (l2 m))) (hj : j ≤ k) (hg : glB sc x = true) (h1 : Ev X wd ρ a1 r1) (h2 : Ev X wd ρ a2 r2) (s1 : Plain X a1 := by exact fun _ => rfl) (s2 : Plain X a2 := by exact fun _ => rfl) :
    Ev X wd ρ (.Call (.Name x p) [a1, a2] [] pos) (r1.bind fun x => r2.bind fun y => m x y) := (ev_call c W G.dn hj hg (eva_cons h1 (eva_cons h2 eva_nil (s2 _)) (s1 _)) l2n (s1 _) (by rw [s2]; rfl)).eq (by simp [bind_assoc, l2])
theorem ev_call3 [Calm wd] (c : Cw CX k wd N sc X) (W : NoW wd) {m : D → D → D → R D} (G : Df X.prog X.w X.K X.mg X.base CX j x (spP X.K 3 (l3 m))) (hj : j ≤ k) (hg : glB sc x = true) (h1 : Ev X wd ρ a1 r1) (h2 : Ev X wd ρ a2 r2) (h3 : Ev X wd ρ a3 r3) (s1 : Plain X a1 := by exact fun _ => rfl) (s2 : Plain X a2 := by exact fun _ => rfl) (s3 : Plain X a3 := by exact fun _ => rfl) :
    Ev X wd ρ (.Call (.Name x p) [a1, a2, a3] [] pos) (r1.bind fun x => r2.bind fun y => r3.bind fun z => m x y z) := (ev_call c W G.dn hj hg (eva_cons h1 (eva_cons h2 (eva_cons h3 eva_nil (s3 _)) (s2 _)) (s1 _)) l3n (s1 _) (by rw [s2, s3]; rfl)).eq (by simp [bind_assoc, l3])
theorem ev_call4 [Calm wd] (c : Cw CX k wd N sc X) (W : NoW wd) {m : D → D → D → D → R D} (G : Df X.prog X.w X.K X.mg X.base CX j x (spP X.K 4 (l4 m))) (hj : j ≤ k) (hg : glB sc x = true) (h1 : Ev X wd ρ a1 r1) (h2 : Ev X wd ρ a2 r2) (h3 : Ev X wd ρ a3 r3) (h4 : Ev X wd ρ a4 r4) (s1 : Plain X a1 := by exact fun _ => rfl) (s2 : Plain X a2 := by exact fun _ => rfl) (s3 : Plain X a3 := by exact fun _ => rfl) (s4 : Plain X a4 := by exact fun _ => rfl) :
    Ev X wd ρ (.Call (.Name x p) [a1, a2, a3, a4] [] pos) (r1.bind fun x => r2.bind fun y => r3.bind fun z => r4.bind fun w => m x y z w) := (ev_call c W G.dn hj hg (eva_cons h1 (eva_cons h2 (eva_cons h3 (eva_cons h4 eva_nil (s4 _)) (s3 _)) (s2 _)) (s1 _)) l4n (s1 _) (by rw [s2, s3, s4]; rfl)).eq (by simp [bind_assoc, l4])
theorem ev_call5 [Calm wd] (c : Cw CX k wd N sc X) (W : NoW wd) {m : D → D → D → D → D → R D} (G : Df X.prog X.w X.K X.mg X.base CX j x (spP X.K 5 (l5 m))) (hj : j ≤ k) (hg : glB sc x = true) (h1 : Ev X wd ρ a1 r1) (h2 : Ev X wd ρ a2 r2) (h3 : Ev X wd ρ a3 r3) (h4 : Ev X wd ρ a4 r4) (h5 : Ev X wd ρ a5 r5) (s1 : Plain X a1 := by exact fun _ => rfl) (s2 : Plain X a2 := by exact fun _ => rfl) (s3 : Plain X a3 := by exact fun _ => rfl) (s4 : Plain X a4 := by exact fun _ => rfl) (s5 : Plain X a5 := by exact fun _ => rfl) :
    Ev X wd ρ (.Call (.Name x p) [a1, a2, a3, a4, a5] [] pos) (r1.bind fun x => r2.bind fun y => r3.bind fun z => r4.bind fun w => r5.bind fun u => m x y z w u) := (ev_call c W G.dn hj hg (eva_cons h1 (eva_cons h2 (eva_cons h3 (eva_cons h4 (eva_cons h5 eva_nil (s5 _)) (s4 _)) (s3 _)) (s2 _)) (s1 _)) l5n (s1 _) (by rw [s2, s3, s4, s5]; rfl)).eq (by simp [bind_assoc, l5])
variable {y : Str} {i : Nat} {py : Pos}
theorem ev_callD0 [Calm wd] (c : Cw CX k wd N sc X) (W : NoW wd) {m : R D} (G : Df X.prog X.w X.K X.mg X.base CX j x (spD X.K 0 (l0 m))) (hj : j ≤ k) (hg : glB sc x = true) (hv : visB sc y = true) (hN : N[i]? = some y) (hρ : ρ[i]? = some .w) :
    Ev X wd ρ (.Call (.Name x p) [.Name y py] [] pos) m := (ev_callD c W G.dn hj hg hv hN hρ eva_nil l0n).eq (by simp [bind_assoc, l0])
theorem ev_callD1 [Calm wd] (c : Cw CX k wd N sc X) (W : NoW wd) {m : D → R D} (G : Df X.prog X.w X.K X.mg X.base CX j x (spD X.K 1 (l1 m))) (hj : j ≤ k) (hg : glB sc x = true) (hv : visB sc y = true) (hN : N[i]? = some y) (hρ : ρ[i]? = some .w) (h1 : Ev X wd ρ a1 r1) (s1 : Plain X a1 := by exact fun _ => rfl) :
    Ev X wd ρ (.Call (.Name x p) [.Name y py, a1] [] pos) (r1.bind fun x => m x) := (ev_callD c W G.dn hj hg hv hN hρ (eva_cons h1 eva_nil (s1 _)) l1n (by rw [s1]; rfl)).eq (by simp [bind_assoc, l1])
theorem ev_callD2 [Calm wd] (c : Cw CX k wd N sc X) (W : NoW wd) {m : D → D → R D} (G : Df X.prog X.w X.K X.mg X.base CX j x (spD X.K 2 (l2 m))) (hj : j ≤ k) (hg : glB sc x = true) (hv : visB sc y = true) (hN : N[i]? = some y) (hρ : ρ[i]? = some .w) (h1 : Ev X wd ρ a1 r1) (h2 : Ev X wd ρ a2 r2) (s1 : Plain X a1 := by exact fun _ => rfl) (s2 : Plain X a2 := by exact fun _ => rfl) :
    Ev X wd ρ (.Call (.Name x p) [.Name y py, a1, a2] [] pos) (r1.bind fun x => r2.bind fun y => m x y) := (ev_callD c W G.dn hj hg hv hN hρ (eva_cons h1 (eva_cons h2 eva_nil (s2 _)) (s1 _)) l2n (by rw [s1, s2]; rfl)).eq (by simp [bind_assoc, l2])
theorem ev_callD3 [Calm wd] (c : Cw CX k wd N sc X) (W : NoW wd) {m : D → D → D → R D} (G : Df X.prog X.w X.K X.mg X.base CX j x (spD X.K 3 (l3 m))) (hj : j ≤ k) (hg : glB sc x = true) (hv : visB sc y = true) (hN : N[i]? = some y) (hρ : ρ[i]? = some .w) (h1 : Ev X wd ρ a1 r1) (h2 : Ev X wd ρ a2 r2) (h3 : Ev X wd ρ a3 r3) (s1 : Plain X a1 := by exact fun _ => rfl) (s2 : Plain X a2 := by exact fun _ => rfl) (s3 : Plain X a3 := by exact fun _ => rfl) :
    Ev X wd ρ (.Call (.Name x p) [.Name y py, a1, a2, a3] [] pos) (r1.bind fun x => r2.bind fun y => r3.bind fun z => m x y z) := (ev_callD c W G.dn hj hg hv hN hρ (eva_cons h1 (eva_cons h2 (eva_cons h3 eva_nil (s3 _)) (s2 _)) (s1 _)) l3n (by rw [s1, s2, s3]; rfl)).eq (by simp [bind_assoc, l3])
theorem ev_callD4 [Calm wd] (c : Cw CX k wd N sc X) (W : NoW wd) {m : D → D → D → D → R D} (G : Df X.prog X.w X.K X.mg X.base CX j x (spD X.K 4 (l4 m))) (hj : j ≤ k) (hg : glB sc x = true) (hv : visB sc y = true) (hN : N[i]? = some y) (hρ : ρ[i]? = some .w) (h1 : Ev X wd ρ a1 r1) (h2 : Ev X wd ρ a2 r2) (h3 : Ev X wd ρ a3 r3) (h4 : Ev X wd ρ a4 r4) (s1 : Plain X a1 := by exact fun _ => rfl) (s2 : Plain X a2 := by exact fun _ => rfl) (s3 : Plain X a3 := by exact fun _ => rfl) (s4 : Plain X a4 := by exact fun _ => rfl) :
    Ev X wd ρ (.Call (.Name x p) [.Name y py, a1, a2, a3, a4] [] pos) (r1.bind fun x => r2.bind fun y => r3.bind fun z => r4.bind fun w => m x y z w) := (ev_callD c W G.dn hj hg hv hN hρ (eva_cons h1 (eva_cons h2 (eva_cons h3 (eva_cons h4 eva_nil (s4 _)) (s3 _)) (s2 _)) (s1 _)) l4n (by rw [s1, s2, s3, s4]; rfl)).eq (by simp [bind_assoc, l4])
end
/-! ### loops: no two rules -/
section
variable {CX : CXT} {k : Nat} {wd : Wd} {N : List Str} {sc : Scope} {X : Cx} {ρ : List Sl} {e a b c : Expr} {pos p : Pos} {ra rb : R D}
/-- a chain of two comparisons, as a test -/
theorem evt_chain {op op' : CmpOp} {r r' : R2} {g g' : D → D → R D} {rc : R D} (ho : OpR X (compareOp op) r) (ho' : OpR X (compareOp op') r') (hs : OpS X.K r g) (hs' : OpS X.K r' g') (ha : EvB X wd ρ a ra) (hb : EvB X wd ρ b rb) (hc : EvB X wd ρ c rc)
    (hm : lastMarks [op, op'] [b, c] = false := by with_unfolding_all rfl) :
    EvT X wd ρ (.Compare a [op, op'] [b, c] pos) (ra.bind fun x => rb.bind fun y => (g x y).bind fun z => (boolR z).bind fun k => if k = true then rc.bind fun w => (g' y w).bind boolR else R.ret false) := fun F ad σ H Q s q => by
  refine bt (pt_chain ho ho' pe_b pe_b pe_b hm) ?_
  rw [wp_bind] at q
  refine ha F ad σ H _ s (wp_mono (fun d q v H1 g1 r1 => ?_) (fun _ _ z => z) q)
  rw [wp_bind] at q
  have s1 := s.grow g1
  refine hb F ad σ H1 _ s1 (wp_mono (fun d2 q v2 H2 g2 r2 => ?_) (fun _ _ z => z.grow g1) q)
  have s2 := s1.grow g2
  rw [wp_bind] at q
  refine hs (Ban F ρ ad) H2 v v2 d d2 _ _ (fun b z => s2.banned z) (r1.stay s1 g2).b r2.b (wp_mono (fun z q v3 H3 sm r3 => ?_) (fun _ _ z => z.grow (g1.trans g2)) q)
  cases z with
  | bool k =>
    refine ⟨k, RepB.bool (dr := none) (.inl r3), ?_⟩
    have g3 := Grow.same (dr := wd.dr) sm
    have s3 := s2.grow g3
    cases k with
    | false => exact iteF ⟨false, rfl, q _ (g1.trans (g2.trans g3))⟩
    | true =>
      have q : wp (fun b => ∀ H', Grow wd.dr H H' → Q b H') (XP X wd F ρ ad H) (rc.bind fun w => (g' d2 w).bind boolR) := q
      rw [wp_bind] at q
      refine iteT (hc F ad σ H3 _ s3 (wp_mono (fun d4 q v4 H4 g4 r4 => ?_) (fun _ _ z => z.grow (g1.trans (g2.trans g3))) q))
      have s4 := s3.grow g4
      rw [wp_bind] at q
      refine hs' (Ban F ρ ad) H4 v2 v4 d2 d4 _ _ (fun b z => s4.banned z) ((r2.stay s2 g3).stay s3 g4).b r4.b (wp_mono (fun (z : D) q (v5 : V) (H5 : Hp) sm5 r5 => ?_) (fun _ _ z => z) q)
      cases z with
      | bool k2 => exact ⟨k2, RepB.bool (dr := none) (.inl r5), q _ (g1.trans (g2.trans (g3.trans (g4.trans (Grow.same sm5)))))⟩
      | _ => exact q.elim
  | _ => exact q.elim
theorem evt_chle {rc : R D} (ha : EvB X wd ρ a ra) (hb : EvB X wd ρ b rb) (hc : EvB X wd ρ c rc) (hm : lastMarks [.LtE, .LtE] [b, c] = false := by with_unfolding_all rfl) : EvT X wd ρ (.Compare a [.LtE, .LtE] [b, c] pos) (ra.bind fun x => rb.bind fun y => (leR x y).bind fun z => (boolR z).bind fun k => if k = true then rc.bind fun w => (leR y w).bind boolR else R.ret false) :=
  evt_chain op_le op_le opS_le opS_le ha hb hc hm
theorem evt_chlt {rc : R D} (ha : EvB X wd ρ a ra) (hb : EvB X wd ρ b rb) (hc : EvB X wd ρ c rc) (hm : lastMarks [.LtE, .Lt] [b, c] = false := by with_unfolding_all rfl) : EvT X wd ρ (.Compare a [.LtE, .Lt] [b, c] pos) (ra.bind fun x => rb.bind fun y => (leR x y).bind fun z => (boolR z).bind fun k => if k = true then rc.bind fun w => (ltR y w).bind boolR else R.ret false) :=
  evt_chain op_le op_lt opS_le opS_lt ha hb hc hm
theorem ev_chle {rc : R D} (ha : EvB X wd ρ a ra) (hb : EvB X wd ρ b rb) (hc : EvB X wd ρ c rc) (hm : lastMarks [.LtE, .LtE] [b, c] = false := by with_unfolding_all rfl) : Ev X wd ρ (.Compare a [.LtE, .LtE] [b, c] pos) (ra.bind fun x => rb.bind fun y => (leR x y).bind fun z => (boolR z).bind fun k => if k = true then rc.bind fun w => leR y w else R.ret (.bool false)) :=
  ev_chain op_le op_le opS_le opS_le ha hb hc hm
theorem ev_chlt {rc : R D} (ha : EvB X wd ρ a ra) (hb : EvB X wd ρ b rb) (hc : EvB X wd ρ c rc) (hm : lastMarks [.LtE, .Lt] [b, c] = false := by with_unfolding_all rfl) : Ev X wd ρ (.Compare a [.LtE, .Lt] [b, c] pos) (ra.bind fun x => rb.bind fun y => (leR x y).bind fun z => (boolR z).bind fun k => if k = true then rc.bind fun w => ltR y w else R.ret (.bool false)) :=
  ev_chain op_le op_lt opS_le opS_lt ha hb hc hm
end
end Pu
/-! Px: texts joined; the draws: a def that makes them, a def that takes one, a law that begins with them. -/
namespace Pu
open PySem PySem.Spec PyProof.Rows L2 R
def strOf : D → Option Str
  | .str x => some x
  | _ => none
def joinL (a : Str) (ys : List Str) : R D := if (ys.map (·.length)).sum + ys.length * a.length ≤ 16777216 then R.ret (.str (Txt.join a ys)) else bad
def strR : D → R Str
  | .str x => R.ret x
  | _ => bad
def joinR (a : Str) : D → R D
  | .list xs => (match allSome strOf xs with | some ys => joinL a ys | none => bad)
  | .tuple xs => (match allSome strOf xs with | some ys => joinL a ys | none => bad)
  | _ => bad
theorem reps_strs {K : PySem.W.Frag} {B : Addr → Prop} {H : Hp} : ∀ {ds : List D} {vs : List V} {ns : List Str}, Reps K B H vs ds → allSome strOf ds = some ns → vs = ns.map V.str
  | [], _, _, h, e => by cases h; cases e; rfl
  | d :: ds, _, ns, h, e => by
    cases h with
    | cons a b =>
      unfold allSome at e
      cases d with
      | str i =>
        cases e2 : allSome strOf ds with
        | none => rw [e2] at e; cases e
        | some ms =>
          rw [e2] at e
          cases e
          cases a
          rw [reps_strs b e2]
          rfl
      | _ => cases e
section
variable {CX : CXT} {k : Nat} {wd : Wd} {N : List Str} {sc : Scope} {X : Cx} {ρ : List Sl} {e a b : Expr} {pos apos : Pos} {ra rb : R D}
theorem ev_join (ha : EvB X wd ρ a ra) (hb : EvB X wd ρ b rb) (hs : starEach [b] X.env = [(false, eval b X.env)] := by rfl) (hbase : attributeBase a "join" X.env (eval a X.env) = eval a X.env := by rfl) (hline : (apos.endLine == pos.line) = true := by rfl) :
    Ev X wd ρ (.Call (.Attribute a "join" apos) [b] [] pos) (ra.bind fun x => (strR x).bind fun x => rb.bind fun y => joinR x y) := fun F ad σ H Q s q => by
  refine be (pe_join pe_b pe_b hs hbase hline) ?_
  rw [wp_bind] at q
  refine ha F ad σ H _ s (wp_mono (fun d q v H1 g1 r1 => ?_) (fun _ _ z => z) q)
  have s1 := s.grow g1
  cases d with
  | str z =>
    have q : (rb.bind fun y => joinR z y).wp (fun d => ∀ v H', Grow wd.dr H H' → Rep X.K (Ban F ρ ad) H' v d → Q v H') (XP X wd F ρ ad H) := q
    rw [wp_bind] at q
    refine ⟨⟨z, r1.str⟩, hb F ad σ H1 _ s1 (wp_mono (fun d2 q v2 H2 g2 r2 => ?_) (fun _ _ z => z.grow g1) q)⟩
    cases d2 with
    | list xs =>
      unfold joinR at q
      cases e2 : allSome strOf xs with
      | none => simp only [e2] at q; exact q.elim
      | some ys =>
        simp only [e2] at q
        obtain ⟨h, q⟩ := wp_ite q
        obtain ⟨l, vs, rfl, e, rr⟩ := r2.list
        exact ⟨z, l, ys, r1.str, rfl, .inl (by rw [← reps_strs rr e2]; exact .inl e), h, q _ _ (g1.trans g2) (.str _)⟩
    | tuple xs =>
      unfold joinR at q
      cases e2 : allSome strOf xs with
      | none => simp only [e2] at q; exact q.elim
      | some ys =>
        simp only [e2] at q
        obtain ⟨h, q⟩ := wp_ite q
        obtain ⟨l, vs, rfl, e, rr⟩ := r2.tuple
        exact ⟨z, l, ys, r1.str, rfl, .inr (by rw [← reps_strs rr e2]; exact e.sq), h, q _ _ (g1.trans g2) (.str _)⟩
    | _ => exact q.elim
  | _ => exact q.elim
end
/-! ### the script -/
section
variable {CX : CXT} {k : Nat} {wd : Wd} {N : List Str} {sc : Scope} {X : Cx} {ρ : List Sl} {pos p q : Pos} {x : Str} {i : Nat} {ds : List D}
theorem ev_lenS (c : Cw CX k wd N sc X) (B : Bt X.mg) (hg : glB sc "len" = true) (hv : visB sc x = true) (hN : N[i]? = some x) (hρ : ρ[i]? = some (.s ds)) : Ev X wd ρ (.Call (.Name "len" p) [.Name x q] [] pos) (R.ret (.int ds.length)) := fun F ad σ H Q s z => by
  refine be (pe_callB call_len (c.gl hg).1 B.len bv_len (pa_cons (pe_var (i := i) (by rw [c.hN]; exact hN) (c.vis hv).1 (c.vis hv).2.1 (c.vis hv).2.2) pa_nil) (c.gl hg).2.2 (c.gl hg).2.1) ?_
  obtain ⟨a, vs, e, r, rr⟩ := scr_at c s hρ
  exact ⟨_, e, _, ds.length, rfl, .inl ⟨vs, r, rr.length.symm⟩, z _ _ (Grow.refl _ _) (.int _)⟩
theorem ev_sliceS (c : Cw CX k wd N sc X) (hv : visB sc x = true) (hN : N[i]? = some x) (hρ : ρ[i]? = some (.s ds)) {lo hi : Option Expr} {p2 : Pos} {rl rh : R (Option Int)} (hl : EvP X wd ρ lo rl) (hh : EvP X wd ρ hi rh) :
    Ev X wd ρ (.Subscript (.Name x q) (.Slice lo hi none p2) pos) (rl.bind fun l => rh.bind fun h => R.ret (.list (cutD ds l h))) := fun F ad σ H Q s z => by
  refine be (pe_slice sl_list (pe_var (i := i) (by rw [c.hN]; exact hN) (c.vis hv).1 (c.vis hv).2.1 (c.vis hv).2.2) po_b po_b) ?_
  obtain ⟨a, vs, e, r, rr⟩ := scr_at c s hρ
  refine ⟨_, e, ?_⟩
  rw [wp_bind] at z
  refine hl F ad σ H _ s (wp_mono (fun l z H1 g1 => ?_) (fun _ _ z => z) z)
  rw [wp_bind] at z
  have s1 := s.grow g1
  refine hh F ad σ H1 _ s1 (wp_mono (fun h z H2 g2 => ?_) (fun _ _ z => z.grow g1) z)
  have s2 := s1.grow g2
  obtain ⟨a', vs', e', r', rr'⟩ := scr_at c s2 hρ
  rw [e] at e'
  cases e'
  exact ⟨a, vs', rfl, r', fun p hp => z _ _ (g1.trans (g2.trans (Grow.same (same_upd hp)))) (newlst (fun b y => s2.banned y) hp (cut_reps rr' l h))⟩
theorem ev_listS (c : Cw CX k wd N sc X) (B : Bt X.mg) (hg : glB sc "list" = true) (hv : visB sc x = true) (hN : N[i]? = some x) (hρ : ρ[i]? = some (.s ds)) : Ev X wd ρ (.Call (.Name "list" p) [.Name x q] [] pos) (R.ret (.list ds)) := fun F ad σ H Q s z => by
  refine be (pe_callTy call_list_of (c.gl hg).1 B.list bv_list (pa_cons (pe_var (i := i) (by rw [c.hN]; exact hN) (c.vis hv).1 (c.vis hv).2.1 (c.vis hv).2.2) pa_nil) (c.gl hg).2.2 (c.gl hg).2.1) ?_
  obtain ⟨a, vs, e, r, rr⟩ := scr_at c s hρ
  exact ⟨_, e, a, vs, rfl, .inl r, fun p hp => z _ _ (Grow.same (same_upd hp)) (newlst (fun b y => s.banned y) hp rr)⟩
end
section
variable {P : Program} {w : World} {K : PySem.W.Frag} {mg : Str → Option Value} {base : Heap} {N : List Str} {x y : Str} {st : Stmt} {k : Nat} {p1 p2 p3 p4 p5 p6 p7 p8 p9 : Pos}
def SqS (K : PySem.W.Frag) (B : Addr → Prop) (H : Hp) (a : Addr) (xs : List V) : Prop := (Rd H a (.lst xs) ∧ ¬ B a) ∨ KL K a xs
def spS (K : PySem.W.Frag) (m : D → D → R D) : Sp := fun vs H Q _ => ∃ (B : Addr → Prop) (a : Addr) (xs : List V) (ds : List D) (v : V) (d : D), Fo K H B ∧ vs = [.ref a, v] ∧ SqS K B H a xs ∧ Reps K B H xs ds ∧ Rep K B H v d ∧
  (m (.list ds) d).wp (fun z => ∀ v' H', Same H H' → Rep K B H' v' z → Q v' H') fun _ _ => False
def slotsS (N : List Str) (ds : List D) (d : D) : List Sl := .s ds :: .d d :: List.replicate (N.length - 2) .no
theorem rep_no {n i : Nat} {s : Sl} (h : (List.replicate n Sl.no)[i]? = some s) : s = .no := by
  rw [List.getElem?_replicate] at h
  split at h
  · cases h; rfl
  · cases h
theorem slotsS_own {ds : List D} {d : D} {i : Nat} : ¬ Own (slotsS N ds d) i := by
  rintro ⟨s, e, q⟩
  unfold slotsS at e
  match i, e with
  | 0, e => cases e; cases q
  | 1, e => cases e; cases q
  | i + 2, e =>
    rw [List.getElem?_cons_succ, List.getElem?_cons_succ] at e
    rw [rep_no e] at q
    cases q
theorem df_ofS (A : At K mg x st [y, "_law_count"]) (S : FnScope N [y, "_law_count"] (defScope st)) {m : D → D → R D} {o : List D → D → R (Out Unit Empty Unit)}
    (hm : ∀ ds e, m (.list ds) e = endR0 (o ds e)) {eN : Unit → List Sl} {eB : Empty → List Sl} {eT : Unit → List Sl}
    (hrun : ∀ (X : Cx), Cd CX0 k wd0 N (defScope st) X → X.prog = P → X.w = w → X.K = K → X.mg = mg → X.base = base → ∀ ds d, Run X wd0 eN eB eT (slotsS N ds d) (defBody st) (o ds d)) :
    Df P w K mg base CX0 (k + 1) x (spS K m) := by
  obtain ⟨f, fd, h1, h2, h3, F⟩ := A.ok
  refine ⟨f, fd, _, h1, h2, h3, F.ok S (fun vs H Q E h => ?_) (fun cdv A outer s H vs Q E hr h => ?_)⟩
  · obtain ⟨B, a, xs, ds, v, d, _, rfl, _⟩ := h
    rfl
  · obtain ⟨B, a, xs, ds, v, d, nb, rfl, hq, r, rv, q⟩ := h
    refine ⟨_, pss_b, ?_⟩
    have hN : 2 ≤ N.length := by have := congrArg List.length S.pre; rw [List.length_take] at this; simp only [List.length_cons, List.length_nil] at this; omega
    have hb : ∀ b, Ban B (slotsS N ds d) (fun _ => 0) b → B b := by
      rintro b (b | ⟨j, o, _⟩)
      · exact b
      · exact absurd o slotsS_own
    have st0 : StOk K none B (slotsS N ds d) (L2.start N [.ref a, v]) H fun _ => 0 := by
      refine ⟨?_, fun i j o => absurd o slotsS_own, fun i o => absurd o slotsS_own, nb.b, fun a l e => (by cases e), nb.t, fun i s e => ?_⟩
      · unfold L2.start slotsS
        simp only [List.length_append, List.length_map, List.length_replicate, List.length_cons, List.length_nil]
        omega
      · unfold slotsS at e
        match i, e with
        | 0, e =>
          cases e
          refine ⟨a, xs, by unfold L2.start; rfl, hq.imp (fun z => ⟨z.1, fun y => z.2 (hb _ y)⟩) id, r.weak hb⟩
        | 1, e =>
          cases e
          exact ⟨v, by unfold L2.start; rfl, rv.weak hb⟩
        | i + 2, e =>
          rw [List.getElem?_cons_succ, List.getElem?_cons_succ] at e
          rw [rep_no e]
          trivial
    rw [hm] at q
    unfold endR0 at q
    rw [wp_bind] at q
    refine hrun ((cxOf CX0 P w K mg base N x (defScope st) f cdv A outer s H E).nox) ⟨⟨rfl, rfl, S.nd, fun _ => rfl, un_of hr, fun _ => hr, PassesOwn.never, pass0⟩, fun _ => rfl, S.kind, rfl, rfl⟩ rfl rfl rfl rfl rfl ds d B (fun _ => 0) _ H _ st0 (wp_mono (fun z q => ?_) (fun c x z => z.elim) q)
    cases z with
    | nx u => exact fun ad' σ' H' a s' => q _ H' (fun b o e => (a.keep b o e has_none fun ⟨i, o, _⟩ => slotsS_own o).1) .non
    | bk b => exact b.elim
    | ct b => exact b.elim
    | rt d t => exact fun v ad' ρ' σ' H' a s' _ r => q v H' (fun b o e => (a.keep b o e has_none fun ⟨i, o, _⟩ => slotsS_own o).1) ((r.rep rfl).weak fun b => .inl)
/-- the draws are made -/
theorem int_reps {B : Addr → Prop} {H : Hp} : ∀ ns : List Int, Reps K B H (ns.map V.int) (ns.map PyData.int)
  | [] => .nil
  | n :: ns => .cons (.int n) (int_reps ns)
theorem reps_int {B : Addr → Prop} {H : Hp} : ∀ {ns : List Int} {vs : List V}, Reps K B H vs (ns.map PyData.int) → vs = ns.map V.int
  | [], _, h => by cases h; rfl
  | n :: ns, _, h => by
    cases h with
    | cons a b => cases a; rw [reps_int b]; rfl
def spLaw (K : PySem.W.Frag) : Sp := fun vs H Q _ => ∃ (a : Addr) (ns : List Int), vs = [.ref a] ∧ SqL K H a (ns.map V.int) ∧ ns.length ≤ 63 ∧ TbOk K H ∧ ∀ H', TbOk K H' → Q (.bl true) H'
theorem slotsL_own {n i : Nat} : ¬ Own (.no :: .w :: List.replicate n .no) i := by
  rintro ⟨s, e, q⟩
  match i, e with
  | 0, e => cases e; cases q
  | 1, e => cases e; cases q
  | i + 2, e =>
    rw [List.getElem?_cons_succ, List.getElem?_cons_succ] at e
    rw [rep_no e] at q
    cases q
end
/-! ### what the top has written -/
section
variable {K : PySem.W.Frag} {mg : Str → Option Value} {h : Heap} {x : Str} {st : Stmt} {ps : List Str} {f : Addr}
theorem at_mk (X : K.In h) (G : h.Ns mainGlobals mg) {od an : Option Addr} {sl : Array (Option Value)} {oc kV dc pm cd ct : Value} (a : PySem.W.nsIn K mainGlobals x = some (some (.ref f)))
    (l : K.lookup f = some ⟨oc, od, .func (PySem.W.fnOf x x (defArgs st) (defBody st) (defScope st) .none kV dc pm an cd ct), sl⟩) (c : PySem.W.codeIn K cd x = true) (k : PySem.W.keepIn K (.ref f) = true)
    (hb : ∀ fd, Fun K x x st f fd → Binds K fd ps []) : At K mg x st ps :=
  ⟨f, _, PySem.W.mg_of X G a, k, hb _ (fun_mk l c k), ⟨fun_mk l c k, fun c' P h => by
    unfold PySem.W.tabIn at h
    rw [a] at h
    simp only [l] at h
    split at h
    · split at h
      · split at h
        · cases h; rfl
        · cases h
      · cases h
    · cases h⟩⟩
theorem law_mk {P : Program} {w : World} {fa : Addr} {n : Nat} (X : K.In h) (G : h.Ns mainGlobals mg) (hfa : mg "law" = some (.ref fa)) {od an : Option Addr} {sl : Array (Option Value)} {oc kV dc pm cd ct : Value} (a : PySem.W.nsIn K mainGlobals "law" = some (some (.ref f)))
    (l : K.lookup f = some ⟨oc, od, .func (PySem.W.fnOf "law" "law" (defArgs st) (defBody st) (defScope st) .none kV dc pm an cd ct), sl⟩) (c : PySem.W.codeIn K cd "law" = true) (k : PySem.W.keepIn K (.ref f) = true)
    (hb : ∀ (s : Shared) (v : Value), BindsTo s (PySem.W.fnOf "law" "law" (defArgs st) (defBody st) (defScope st) .none kV dc pm an cd ct) ⟨[v], []⟩ [("_law_script", v)])
    (hF : ∀ (fd : FuncData) (base : Heap), Fun K "law" "law" st f fd → FnOk P w K mg base CX0 n f fd ["_law_script"] (spLaw K)) :
    ∃ fd : FuncData, (∀ (s : Shared) (v : Value), BindsTo s fd ⟨[v], []⟩ [("_law_script", v)]) ∧ ∀ base : Heap, K.In base → base.Ns mainGlobals mg → FnOk P w K mg base CX0 n fa fd ["_law_script"] (spLaw K) := by
  have e := hfa.symm.trans (PySem.W.mg_of X G a)
  cases e
  exact ⟨_, hb, fun base _ _ => hF _ base (fun_mk l c k)⟩
end
end Pu
/-! Pxq: the draws, a dict: the def that makes them, the one that takes one, a law that begins with them. -/
namespace Pu
open PySem PySem.Spec PyProof.Rows L2 R
/-! ### a draw is taken -/
section
variable {P : Program} {w : World} {K : PySem.W.Frag} {mg : Str → Option Value} {base : Heap} {st : Stmt} {k : Nat} {p1 p2 p3 p4 p5 q1 q2 q3 q4 q5 r1 r2 r3 r4 r5 r6 r7 t1 t2 t3 t4 t5 t6 t7 t8 t9 u1 u2 u3 u4 u5 u6 u7 w1 w2 w3 w4 w5 w6 : Pos}
def tkN (zn : Str) : List Str := ["_law_draws_here", "_law_bound", "_law_row", "_law_at", zn]
def tkB (zn : Str) (sc : Scope) : Bool := (tkN zn).all (fun x => visB sc x && lcB sc x) && glB sc "int" && glB sc "len"
theorem at_rows {rows : List Int} {n : Int} (h0 : 0 ≤ n) (hr : rows ≠ []) : ∃ z : Int, atI (rows.map V.int) (n.fmod rows.length) = some (.int z) := by
  have hl : 0 < rows.length := List.length_pos_iff.mpr hr
  have e : n.fmod rows.length = ((n.toNat % rows.length : Nat) : Int) := by
    rw [Int.fmod_eq_emod_of_nonneg _ (by omega)]
    conv => lhs; rw [← Int.toNat_of_nonneg h0]
    rw [Int.natCast_emod]
  rw [e]
  have hlt := Nat.mod_lt n.toNat hl
  exact ⟨rows[n.toNat % rows.length], atI_nat (by rw [List.getElem?_map, List.getElem?_eq_getElem hlt]; rfl)⟩
theorem df_take {zn : Str} (A : At K mg "_law_take" st ["_law_draws_here", "_law_bound"]) (S : FnScope (tkN zn) ["_law_draws_here", "_law_bound"] (defScope st)) (B : Bt mg) (hv : tkB zn (defScope st) = true)
  (hb : defBody st = [.Assign [.Name "_law_row" p1] (.Subscript (.Name "_law_draws_here" p2) (.Constant (.str "row") 0 p3) p4) p5,
     .Assign [.Name "_law_at" q1] (.Subscript (.Name "_law_draws_here" q2) (.Constant (.str "at") 0 q3) q4) q5,
     .Assign [.Subscript (.Name "_law_draws_here" r1) (.Constant (.str "at") 0 r2) r3] (.BinOp (.Name "_law_at" r4) .Add (.Constant (.int 1) 0 r5) r6) r7,
     .Assign [.Name zn t1] (.BinOp (.Subscript (.Name "_law_row" t2) (.BinOp (.Call (.Name "int" t3) [.Name "_law_at" t4] [] t5) .Mod (.Call (.Name "len" t6) [.Name "_law_row" t7] [] t8) t9) t10) .Add
        (.BinOp (.Name "_law_at" u1) .FloorDiv (.Call (.Name "len" u2) [.Name "_law_row" u3] [] u4) u5) u6) u7,
     .Return (some (.BinOp (.Call (.Name "int" w1) [.Name zn w2] [] w3) .Mod (.Name "_law_bound" w4) w5)) w6]) :
    Df P w K mg base CX0 (k + 1) "_law_take" (spD K 1 (l1 drawR)) := by
  refine df_ofD A S (n := 1) rfl (T := Unit) (eT := fun _ => []) (o := l1 fun b => (drawR b).bind fun d => R.ret (.rt d ())) (fun ds hl => ?_) (eN := fun _ => []) (eB := fun e => e.elim) fun X pa c e1 e2 e3 e4 e5 ds hl => ?_
  · match ds, hl with
    | [b], _ =>
      show drawR b = ((drawR b).bind fun d => R.ret (.rt d ())).bind outD
      rw [bind_assoc]
      induction drawR b with
      | ret a => rfl
      | exc c x => rfl
      | bad => rfl
      | pick n k ih => exact congrArg _ (funext fun i => ih i)
  · match ds, hl with
    | [b], _ =>
    subst e1 e2 e3 e4 e5
    rw [hb]
    unfold tkB tkN at hv
    simp only [List.all_cons, List.all_nil, Bool.and_true, Bool.and_eq_true] at hv
    obtain ⟨⟨⟨⟨d1, d2⟩, ⟨b1, b2⟩, ⟨x1, x2⟩, ⟨a1, a2⟩, z1, z2⟩, gi⟩, gl⟩ := hv
    have vP : ∀ {x : Str} {i : Nat} {p : Pos}, visB (defScope st) x = true → (tkN zn)[i]? = some x → PE X (.Name x p) (tVar i) := fun {x i p} h hN => pe_var (i := i) (by rw [c.hN]; exact hN) (c.vis h).1 (c.vis h).2.1 (c.vis h).2.2
    have nslS : ∀ (x : Str) (j : Nat) (p : Pos), NoSl (.Constant (.str x) j p) := fun _ _ _ _ _ => rfl
    have L : ∀ {p q r : Pos}, PE X (.Call (.Name "len" p) [.Name "_law_row" q] [] r) (tCB (fun xs H Q => ∃ x n, xs = [x] ∧ LenV X.K x H n ∧ Q (.int n) H) (tCons (tVar 2) tNil)) := fun {p q r} => pe_callB call_len (c.gl gl).1 B.len bv_len (pa_cons (vP (i := 2) x1 rfl) pa_nil) (c.gl gl).2.2 (c.gl gl).2.1
    intro F ad σ H Dn s q
    refine bss (pss_cons (ps_set (i := 2) c.nd' (c.at rfl) (c.loc x2) (pe_dget c.u1 (vP (i := 0) d1 rfl) pe_str (nslS _ _ _)) rfl (.inl (c.fn _)))
      (pss_cons (ps_set (i := 3) c.nd' (c.at rfl) (c.loc a2) (pe_dget c.u1 (vP (i := 0) d1 rfl) pe_str (nslS _ _ _)) rfl (.inl (c.fn _)))
      (pss_cons (ps_dput c.u1 (vP (i := 0) d1 rfl) pe_str (pe_op op_add (vP (i := 3) a1 rfl) pe_int) rfl)
      (pss_cons (ps_set (i := 4) c.nd' (c.at rfl) (c.loc z2) (pe_op op_add (pe_ix ix_list (vP (i := 2) x1 rfl) (pe_op op_modN (pe_callTy call_int1 (c.gl gi).1 B.int bv_int (pa_cons (vP (i := 3) a1 rfl) pa_nil) (c.gl gi).2.2 (c.gl gi).2.1) L) (fun _ _ => rfl))
        (pe_op op_fdivN (vP (i := 3) a1 rfl) L)) rfl (.inl (c.fn _)))
      (pss_one (ps_ret (pe_op op_modN (pe_callTy call_int1 (c.gl gi).1 B.int bv_int (pa_cons (vP (i := 4) z1 rfl) pa_nil) (c.gl gi).2.2 (c.gl gi).2.1) (vP (i := 1) b1 rfl)))))))) ?_
    have sb : ∃ v, σ[1]? = some (some v) ∧ Rep X.K (Ban F (slotsD (tkN zn) [b]) ad) H v b := s.sl 1 _ rfl
    obtain ⟨a, l⟩ := pa
    obtain ⟨a', l', ha', ev⟩ : ∃ b l', (wdD (a, l)).dr = some (b, l') ∧ σ[0]? = some (some (V.ref b)) := s.sl 0 .w rfl
    cases ha'
    obtain ⟨vb, eb, rb⟩ := sb
    obtain ⟨fa, fl, ne, n, rows, h0, h1, h2, h3, h4⟩ := s.dk a l rfl
    have hlen : σ.length = 5 := s.len
    cases b with
    | int m =>
      cases rb
      by_cases hm : 0 < m
      · have q : (((if 0 < m then R.pick m fun i => R.ret (PyData.int i) else bad).bind fun d => R.ret (.rt d ()) : R (Out Unit Empty Unit))).wp (OutOk X (wdD (a, l)) (fun _ => []) (fun e => e.elim) (fun _ => []) F (slotsD (tkN zn) [.int m]) ad H Dn) (XPs X (wdD (a, l)) F (slotsD (tkN zn) [.int m]) ad H) := q
        rw [if_pos hm] at q
        obtain ⟨z, hz⟩ := at_rows h0 h3
        have hll : (rows.map V.int).length = rows.length := List.length_map _
        refine ⟨_, ev, a, .ref l, rfl, ?_, ?_⟩
        · have := DGet.k (k := Sum.inr "row") h1
          exact this
        refine ⟨_, by rw [List.getElem?_set_ne (by decide)]; exact ev, a, .int n, rfl, ?_, ?_⟩
        · have := DGet.k (k := Sum.inr "at") h1
          exact this
        refine ⟨.int n, by rw [List.getElem?_set_self (by simp [hlen])], ?_⟩
        refine ⟨n, 1, rfl, rfl, ?_⟩
        refine ⟨_, by rw [List.getElem?_set_ne (by decide), List.getElem?_set_ne (by decide)]; exact ev, a, _, rfl, DPut.k (k := Sum.inr "at") h1 (small1000 (by show 2 ≤ 1000; decide)), ?_⟩
        have eput : putK [((Sum.inr "at" : Key), V.int n), (Sum.inr "row", V.ref l)] (Sum.inr "at") (.int (n + 1)) = ([((Sum.inr "at" : Key), V.int (n + 1)), (Sum.inr "row", V.ref l)] : List (Key × V)) := by unfold putK; rfl
        rw [eput]
        have hR : Rd (upd H a (.dK [(Sum.inr "at", V.int (n + 1)), (Sum.inr "row", V.ref l)])) l (.lst (rows.map V.int)) := rd_imp h2 fun x e => by rw [upd_ne ne]; exact e
        have hrow : ((σ.set 2 (some (.ref l))).set 3 (some (.int n)))[2]? = some (some (.ref l)) := by rw [List.getElem?_set_ne (by decide), List.getElem?_set_self (by rw [hlen]; decide)]
        have hat : ((σ.set 2 (some (.ref l))).set 3 (some (.int n)))[3]? = some (some (.int n)) := by rw [List.getElem?_set_self (by simp [hlen])]
        refine ⟨_, hrow, _, hat, .inl ⟨n, rfl, _, hrow, _, rows.length, rfl, .inl ⟨_, .inl hR, hll.symm⟩, n, rows.length, rfl, rfl, ?_, l, _, _, _, rfl, rfl, .inl hR, hz, _, hat, _, hrow, _, rows.length, rfl, .inl ⟨_, .inl hR, hll.symm⟩, n, rows.length, rfl, rfl, ⟨?_, ?_⟩, z, _, rfl, rfl, ?_⟩⟩
        · have := List.length_pos_iff.mpr h3
          show ((rows.length : Nat) : Int) ≠ 0
          omega
        · have := List.length_pos_iff.mpr h3
          show ((rows.length : Nat) : Int) ≠ 0
          omega
        · show ((rows.length : Nat) : Int).natAbs < 1073741824
          omega
        refine ⟨_, List.getElem?_set_self (by simp [hlen]), .inl ⟨_, rfl, _, ?_, _, m, rfl, rfl, ?_, ?_⟩⟩
        · rw [List.getElem?_set_ne (by decide), List.getElem?_set_ne (by decide), List.getElem?_set_ne (by decide)]; exact eb
        · show m ≠ 0
          omega
        have g : Grow (some (a, l)) H (upd H a (.dK [(Sum.inr "at", V.int (n + 1)), (Sum.inr "row", V.ref l)])) := ⟨fun b o e nb => by rw [upd_ne fun z => nb ⟨a, l, rfl, .inl z⟩]; exact e, fun a' l' z q => by
          cases z
          exact ⟨n + 1, rows, by omega, upd_same, hR, h3, h4⟩⟩
        have hi := q ((z + n.fdiv rows.length).fmod m) (Int.fmod_nonneg_of_pos _ hm) (Int.fmod_lt_of_pos _ hm)
        exact hi _ ad _ σ _ (.grow g) (s.grow g) (fun i s h => by simp at h) (.inl (.int _))
      · have q : (((if 0 < m then R.pick m fun i => R.ret (PyData.int i) else bad).bind fun d => R.ret (.rt d ()) : R (Out Unit Empty Unit))).wp (OutOk X (wdD (a, l)) (fun _ => []) (fun e => e.elim) (fun _ => []) F (slotsD (tkN zn) [.int m]) ad H Dn) (XPs X (wdD (a, l)) F (slotsD (tkN zn) [.int m]) ad H) := q
        rw [if_neg hm] at q
        exact q.elim
    | _ => exact q.elim
end
section
variable {P : Program} {w : World} {K : PySem.W.Frag} {mg : Str → Option Value} {base : Heap} {N : List Str} {x y : Str} {st : Stmt} {k : Nat} {p1 p2 p3 p4 p5 p6 p7 p8 p9 : Pos}
def rowsOk (d : D) : Prop := ∃ rows : List Int, d = .list (rows.map PyData.int) ∧ rows ≠ [] ∧ rows.length ≤ 1000
def spDr (K : PySem.W.Frag) (m : D → D → R D) : Sp := fun vs H Q _ => ∃ (a : Addr) (ns : List Int) (c : Int), vs = [.ref a, .int c] ∧ SqL K H a (ns.map V.int) ∧ (m (.list (ns.map PyData.int)) (.int c)).wp rowsOk (fun _ _ => False) ∧ TbOk K H ∧
  ∀ p l H', l ≠ p → DrAt H' p l → TbOk K H' → Q (.ref p) H'
theorem df_draws (A : At K mg "_law_draws" st ["_law_script", "_law_count"]) (S : FnScope ["_law_script", "_law_count"] ["_law_script", "_law_count"] (defScope st)) {m : D → D → R D} {j : Nat} (G : Df P w K mg base CX0 j "_law_numbers" (spS K m)) (hj : j ≤ k)
    (hv : (visB (defScope st) "_law_script" && visB (defScope st) "_law_count" && glB (defScope st) "_law_numbers") = true)
    (hb : defBody st = [.Return (some (.Dict [some (.Constant (.str "at") 0 p1), some (.Constant (.str "row") 0 p2)] [.Constant (.int 0) 0 p3, .Call (.Name "_law_numbers" p4) [.Name "_law_script" p5, .Name "_law_count" p6] [] p7] p8)) p9]) :
    Df P w K mg base CX0 (k + 1) "_law_draws" (spDr K m) := by
  obtain ⟨f, fd, h1, h2, h3, F⟩ := A.ok
  refine ⟨f, fd, _, h1, h2, h3, F.ok S (fun vs H Q E h => ?_) (fun cdv A outer s H vs Q E hr h => ?_)⟩
  · obtain ⟨a, ns, c, rfl, _⟩ := h
    rfl
  · obtain ⟨a, ns, cn, rfl, hq, hw, htb, q⟩ := h
    rw [hb]
    simp only [Bool.and_eq_true] at hv
    obtain ⟨⟨v1, v2⟩, g1⟩ := hv
    have c : Cw CX0 k wd0 ["_law_script", "_law_count"] (defScope st) ((cxOf CX0 P w K mg base ["_law_script", "_law_count"] "_law_draws" (defScope st) f cdv A outer s H E).nox) := ⟨rfl, rfl, S.nd, fun _ => rfl, un_of hr, fun _ => hr, PassesOwn.never, pass0⟩
    obtain ⟨f2, fd2, ps2, m1, m2, m3, m4⟩ := G
    refine ⟨_, pss_one (ps_ret (pe_disp (pps_cons pe_str pe_int (pps_cons pe_str (pe_call m4 (c.room.mono hj) (c.gl g1).1 m1 m2 m3 .nil c.ps (pa_cons (pe_var (i := 0) rfl (c.vis v1).1 (c.vis v1).2.1 (c.vis v1).2.2) (pa_cons (pe_var (i := 1) rfl (c.vis v2).1 (c.vis v2).2.1 (c.vis v2).2.2) pa_nil)) (c.gl g1).2.1) pps_nil)) rfl rfl (by simp) (by show 2 ≤ 15; decide))), ?_⟩
    intro p hp
    have ne : ∀ {b : Addr} {o : HO}, H b = some o → b ≠ p := fun {b o} e z => by rw [z, hp] at e; cases e
    refine ⟨_, rfl, _, rfl, fun b => b = p, a, ns.map V.int, ns.map PyData.int, .int cn, .int cn, ⟨fun b z => ⟨.dK [], by subst z; exact upd_same, fun _ z => nomatch z⟩, htb.same (same_upd hp)⟩, rfl, ?_, int_reps ns, .int _, wp_mono (fun z hz v' H2 sm r => ?_) (fun _ _ z => z) hw⟩
    · rcases hq with hq | hq
      · have na : a ≠ p := by
          rcases hq with hq | ⟨o, hq⟩ <;> exact ne hq
        exact .inl ⟨rd_imp hq fun x e => by rw [upd_ne na]; exact e, na⟩
      · exact .inr hq
    · obtain ⟨rows, rfl, n0, n1⟩ := hz
      cases r with
      | @lst l vs _ b1 b2 b3 =>
        have ev := reps_int b3
        subst ev
        have hp2 := sm _ _ (upd_same (H := H) (a := p) (o := HO.dK []))
        refine ⟨hp2, [(Sum.inr "at", .int 0), (Sum.inr "row", .ref l)], rfl, (by show 2 ≤ 15; decide), ?_⟩
        have em : mergeK [] [((Sum.inr "at" : Key), V.int 0), (Sum.inr "row", V.ref l)] = [((Sum.inr "at" : Key), V.int 0), (Sum.inr "row", V.ref l)] := by unfold mergeK; rfl
        rw [em]
        refine q p l _ b2 ⟨0, rows, Int.le_refl 0, upd_same, rd_imp b1 fun x e => by rw [upd_ne b2]; exact e, n0, n1⟩ fun P h => by
          rw [upd_ne fun z => by rw [z] at h; have := htb _ h; rw [hp] at this; cases this]
          exact sm _ _ (htb.same (same_upd hp) P h)
/-- the law's own def -/
theorem ok_law {f : Addr} {fd : FuncData} (F : Fun K "law" "law" st f fd) (S : FnScope N ["_law_script"] (defScope st)) (h1N : N[1]? = some ("_law_draws_here" : Str)) {m : D → D → R D} {j : Nat} (G : Df P w K mg base CX0 j "_law_draws" (spDr K m)) (hj : j ≤ k) {cn : Int}
    (hm : ∀ ns : List Int, ns.length ≤ 63 → (m (.list (ns.map PyData.int)) (.int cn)).wp rowsOk (fun _ _ => False))
    (hv : (visB (defScope st) "_law_script" && lcB (defScope st) "_law_draws_here" && glB (defScope st) "_law_draws") = true) {rest : List Stmt}
    (hb : defBody st = .Assign [.Name "_law_draws_here" p1] (.Call (.Name "_law_draws" p2) [.Name "_law_script" p3, .Constant (.int cn) 0 p4] [] p5) p6 :: rest)
    {o : R (Out Unit Empty Unit)} {eN : Unit → List Sl} {eB : Empty → List Sl} {eT : Unit → List Sl}
    (hrun : ∀ (X : Cx) (a : Addr × Addr), Cd CX0 k (wdD a) N (defScope st) X → X.prog = P → X.w = w → X.K = K → X.mg = mg → X.base = base → Run X (wdD a) eN eB eT (.no :: .w :: List.replicate (N.length - 2) .no) rest o)
    (ho : o.wp (fun x => ∃ t, x = .rt (.bool true) t) fun _ _ => False) : FnOk P w K mg base CX0 (k + 1) f fd ["_law_script"] (spLaw K) := by
  refine F.ok S (fun vs H Q E h => ?_) (fun cdv A outer s H vs Q E hr h => ?_)
  · obtain ⟨a, ns, rfl, _⟩ := h
    rfl
  · obtain ⟨a, ns, rfl, hq, hl, htb, q⟩ := h
    rw [hb]
    simp only [Bool.and_eq_true] at hv
    obtain ⟨⟨v1, v2⟩, g1⟩ := hv
    have hN0 : N[0]? = some ("_law_script" : Str) := by
      have e := congrArg (fun z : List Str => z[0]?) S.pre
      rw [List.getElem?_take] at e
      exact e
    have hN : 2 ≤ N.length := by
      by_cases z : 1 < N.length
      · exact z
      · rw [List.getElem?_eq_none (by omega)] at h1N; cases h1N
    have cc : ∀ b, Cd CX0 k (wdD b) N (defScope st) ((cxOf CX0 P w K mg base N "law" (defScope st) f cdv A outer s H E).nox) := fun b => ⟨⟨rfl, rfl, S.nd, fun _ => rfl, un_of hr, fun _ => hr, PassesOwn.never, pass0⟩, fun _ => rfl, S.kind, rfl, rfl⟩
    have c := cc (0, 0)
    obtain ⟨f2, fd2, ps2, m1, m2, m3, m4⟩ := G
    refine ⟨_, pss_cons (ps_set (i := 1) S.nd h1N (c.loc v2) (pe_call m4 (c.room.mono hj) (c.gl g1).1 m1 m2 m3 .nil c.ps (pa_cons (pe_var (i := 0) hN0 (c.vis v1).1 (c.vis v1).2.1 (c.vis v1).2.2) (pa_cons pe_int pa_nil)) (c.gl g1).2.1)) pss_b, ?_⟩
    refine ⟨_, by unfold L2.start; rfl, a, ns, cn, rfl, hq, hm ns hl, htb, fun p l H' ne da htb' => ?_⟩
    have st0 : StOk K (some (p, l)) (fun b => b = p ∨ b = l) (.no :: .w :: List.replicate (N.length - 2) .no) ((L2.start N [.ref a]).set 1 (some (.ref p))) H' fun _ => 0 := by
      refine ⟨?_, fun i j o => absurd o slotsL_own, fun i o => absurd o slotsL_own, fun b z => ?_, fun b b' e => ?_, htb', fun i s e => ?_⟩
      · rw [List.length_set]
        unfold L2.start
        simp only [List.length_append, List.length_map, List.length_replicate, List.length_cons, List.length_nil]
        omega
      · rcases z with rfl | rfl
        · exact da.bd
        · exact da.bdl
      · cases e
        exact ⟨.inl rfl, .inr rfl, ne, da⟩
      · match i, e with
        | 0, e => cases e; trivial
        | 1, e =>
          cases e
          refine ⟨p, l, rfl, ?_⟩
          rw [List.getElem?_set_self]
          unfold L2.start
          simp only [List.length_append, List.length_map, List.length_replicate, List.length_cons, List.length_nil]
          omega
        | i + 2, e =>
          rw [List.getElem?_cons_succ, List.getElem?_cons_succ] at e
          rw [rep_no e]
          trivial
    refine hrun _ (p, l) (cc (p, l)) rfl rfl rfl rfl rfl _ (fun _ => 0) _ H' _ st0 (wp_mono (fun z q => ?_) (fun c x z => z.elim) ho)
    obtain ⟨t, rfl⟩ := q
    exact fun v ad' ρ' σ' H2 a s' _ r => by
      have r := r.rep rfl
      cases r
      exact q H2 s'.tb
end
end Pu
/-! Py: dicts that a def owns or borrows. -/
namespace Pu
open PySem PySem.Spec PyProof.Rows L2 R
/-! ### keys, contents -/
def keyOf : D → Option Key
  | .int i => some (.inl i)
  | .str x => some (.inr x)
  | _ => none
def keysOf : D → Option (List Key)
  | .tuple ds => allSome keyOf ds
  | _ => none
section
variable {κ : Type} [DecidableEq κ]
def valD (kvs : List (κ × D)) (k : κ) : Option D := (kvs.find? fun kv => decide (kv.1 = k)).map (·.2)
def putD (kvs : List (κ × D)) (k : κ) (v : D) : List (κ × D) := if (valD kvs k).isSome = true then kvs.map fun kv => if kv.1 = k then (kv.1, v) else kv else kvs ++ [(k, v)]
def dropD (kvs : List (κ × D)) (k : κ) : List (κ × D) := kvs.filter fun kv => decide (kv.1 ≠ k)
end
/-- what stands at a key; none: no key of this dict -/
def getC : Ct → D → Option (Option D)
  | .k kvs, d => (keyOf d).map fun k => valD kvs k
  | .t kvs, d => (keysOf d).map fun k => valD kvs k
  | .l _, _ => none
def dgetR (c : Ct) (k : D) : R D := match getC c k with
  | some (some v) => ret v
  | _ => bad
def dgetxR (c : Ct) (k x : D) : R D := match getC c k with
  | some o => ret (o.getD x)
  | _ => bad
def dinR (c : Ct) (k : D) : R D := match getC c k with
  | some o => ret (.bool o.isSome)
  | _ => bad
def dninR (c : Ct) (k : D) : R D := match getC c k with
  | some o => ret (.bool (!o.isSome))
  | _ => bad
def Ct.isD : Ct → Bool
  | .l _ => false
  | _ => true
def Sl.ct : Sl → Option Ct
  | .l xs => some (.l xs)
  | .k kvs => some (.k kvs)
  | .kt kvs => some (.t kvs)
  | .b c => some c
  | _ => none
section
variable {K : PySem.W.Frag} {dr : Drs} {F : Addr → Prop} {B : Addr → Prop} {ρ ρ' : List Sl} {σ σ' : L2.St} {H H' : Hp} {ad ad' : Nat → Addr}
/-- an object that a slot names -/
theorem ct_at (s : StOk K dr F ρ σ H ad) {i : Nat} {sl : Sl} {c : Ct} (e : ρ[i]? = some sl) (h : sl.ct = some c) : ∃ a, σ[i]? = some (some (.ref a)) ∧ HasCt K (Ban F ρ ad) H a c ∧ Ban F ρ ad a ∧ ¬ Has dr a := by
  have own : sl.own = true → ¬ Has dr (ad i) := fun ho z => s.nf i ⟨sl, e, ho⟩ (s.dF z)
  have z := s.sl i sl e
  cases sl with
  | l xs => cases h; exact ⟨ad i, z.1, z.2, .inr ⟨i, ⟨_, e, rfl⟩, rfl⟩, own rfl⟩
  | k kvs => cases h; exact ⟨ad i, z.1, z.2, .inr ⟨i, ⟨_, e, rfl⟩, rfl⟩, own rfl⟩
  | kt kvs => cases h; exact ⟨ad i, z.1, z.2, .inr ⟨i, ⟨_, e, rfl⟩, rfl⟩, own rfl⟩
  | b c' =>
    cases h
    obtain ⟨a, h1, h2, h3, h4⟩ := z
    exact ⟨a, h1, h4, .inl h2, h3⟩
  | _ => cases h
theorem keys_reps : ∀ {ds : List D} {vs : List V} {ks : List Key}, Reps K B H vs ds → allSome keyOf ds = some ks → vs = ks.map kV
  | [], _, _, h, e => by cases h; cases e; rfl
  | d :: ds, _, ks, h, e => by
    cases h with
    | cons a b =>
      unfold allSome at e
      cases e1 : keyOf d with
      | none => rw [e1] at e; cases e
      | some k =>
        rw [e1] at e
        cases e2 : allSome keyOf ds with
        | none => rw [e2] at e; cases e
        | some ks' =>
          rw [e2] at e
          cases e
          rw [keys_reps b e2]
          cases d with
          | int i => cases e1; cases a; rfl
          | str i => cases e1; cases a; rfl
          | _ => cases e1
theorem key_rep {d : D} {v : V} {k : Key} (h : Rep K B H v d) (e : keyOf d = some k) : v = kV k := by
  cases d with
  | int i => cases e; cases h; rfl
  | str i => cases e; cases h; rfl
  | _ => cases e
section
variable {κ : Type} [DecidableEq κ]
/-- what two rows of entries hold at a key -/
inductive OV (K : PySem.W.Frag) (B : Addr → Prop) (H : Hp) : Option V → Option D → Prop
  | no : OV K B H none none
  | so {v : V} {d : D} : Rep K B H v d → OV K B H (some v) (some d)
theorem paired_val {vs : List (κ × V)} {kvs : List (κ × D)} (r : Paired (fun (p : κ × V) (q : κ × D) => p.1 = q.1 ∧ Rep K B H p.2 q.2) vs kvs) (k : κ) : OV K B H (valV vs k) (valD kvs k) := by
  induction r with
  | nil => exact .no
  | @cons p q ps qs h t ih =>
    unfold valV valD at ih ⊢
    by_cases e : q.1 = k
    · rw [List.find?_cons_of_pos (by simpa [h.1] using e), List.find?_cons_of_pos (by simpa using e)]
      exact .so h.2
    · rw [List.find?_cons_of_neg (by simpa [h.1] using e), List.find?_cons_of_neg (by simpa using e)]
      exact ih
theorem paired_length {α β : Type} {G : α → β → Prop} {vs : List α} {kvs : List β} (r : Paired G vs kvs) : vs.length = kvs.length := by
  induction r with
  | nil => rfl
  | cons _ _ ih => simp [ih]
theorem paired_snoc {α β : Type} {G : α → β → Prop} {vs : List α} {kvs : List β} {a : α} {b : β} (r : Paired G vs kvs) (h : G a b) : Paired G (vs ++ [a]) (kvs ++ [b]) := by
  induction r with
  | nil => exact .cons h .nil
  | cons x _ ih => exact .cons x ih
theorem paired_put {vs : List (κ × V)} {kvs : List (κ × D)} (r : Paired (fun (p : κ × V) (q : κ × D) => p.1 = q.1 ∧ Rep K B H p.2 q.2) vs kvs) {k : κ} {v : V} {d : D} (h : Rep K B H v d) : Paired (fun (p : κ × V) (q : κ × D) => p.1 = q.1 ∧ Rep K B H p.2 q.2) (putK vs k v) (putD kvs k d) := by
  have hv := paired_val r k
  have e : (vs.any fun kv => decide (kv.1 = k)) = (valD kvs k).isSome := by
    rw [valV_any]
    generalize valV vs k = o1 at hv ⊢
    generalize valD kvs k = o2 at hv ⊢
    cases hv <;> rfl
  unfold putK putD
  rw [e]
  by_cases q : (valD kvs k).isSome = true
  · rw [if_pos q, if_pos q]
    clear q e hv
    induction r with
    | nil => exact .nil
    | @cons p q ps qs h' t ih =>
      rw [List.map_cons, List.map_cons]
      refine .cons ?_ ih
      by_cases e : q.1 = k
      · rw [if_pos (show p.1 = k from h'.1.trans e), if_pos e]
        exact ⟨h'.1, h⟩
      · rw [if_neg (fun z => e (h'.1.symm.trans z)), if_neg e]
        exact h'
  · rw [if_neg q, if_neg q]
    exact paired_snoc r ⟨rfl, h⟩
theorem paired_drop {vs : List (κ × V)} {kvs : List (κ × D)} (r : Paired (fun (p : κ × V) (q : κ × D) => p.1 = q.1 ∧ Rep K B H p.2 q.2) vs kvs) {k : κ} : Paired (fun (p : κ × V) (q : κ × D) => p.1 = q.1 ∧ Rep K B H p.2 q.2) (dropK vs k) (dropD kvs k) := by
  unfold dropK dropD
  induction r with
  | nil => exact .nil
  | @cons p q ps qs h' t ih =>
    rw [List.filter_cons, List.filter_cons]
    by_cases e : q.1 = k
    · rw [if_neg (by simpa using h'.1.trans e), if_neg (by simpa using e)]
      exact ih
    · rw [if_pos (by simpa using fun z => e (h'.1.symm.trans z)), if_pos (by simpa using e)]
      exact .cons h' ih
end
/-- what a dict holds -/
theorem dget_of {a : Addr} {c : Ct} {y : V} {d : D} {o : Option D} (h : HasCt K B H a c) (r : Rep K B H y d) (e : getC c d = some o) : IsD H a ∧ ∃ w, DGet H a y w ∧ OV K B H w o := by
  cases c with
  | l xs => cases e
  | k kvs =>
    obtain ⟨vs, ea, p⟩ := h
    obtain ⟨k, ek, rfl⟩ := Option.map_eq_some_iff.mp e
    rw [key_rep r ek]
    exact ⟨.inl ⟨vs, .inl ea⟩, _, DGet.k ea, paired_val p k⟩
  | t kvs =>
    obtain ⟨vs, ea, p⟩ := h
    obtain ⟨k, ek, rfl⟩ := Option.map_eq_some_iff.mp e
    cases d with
    | tuple ds =>
      obtain ⟨b, ws, rfl, h1, rr⟩ := r.tuple
      have ew := keys_reps rr ek
      subst ew
      exact ⟨.inr ⟨vs, .inl ea⟩, _, DGet.t ea h1.1, paired_val p k⟩
    | _ => cases ek
end
section
variable {CX : CXT} {k : Nat} {wd : Wd} {N : List Str} {sc : Scope} {X : Cx} {ρ : List Sl} {a b f : Expr} {pos p ap : Pos} {ra rb : R D} {x : Str} {i : Nat} {sl : Sl} {ct : Ct}
/-- d[a] -/
theorem ev_dget (cx : Cw CX k wd N sc X) (hv : visB sc x = true) (hN : N[i]? = some x) (hρ : ρ[i]? = some sl) (hc : sl.ct = some ct) (ha : Ev X wd ρ a ra) (hs : NoSl a := by exact fun _ _ => rfl) : Ev X wd ρ (.Subscript (.Name x p) a pos) (ra.bind fun y => dgetR ct y) := fun F ad σ H Q s q => by
  obtain ⟨v1, v2, v3⟩ := cx.vis hv
  obtain ⟨o, eo, _⟩ := ct_at s hρ hc
  refine be (pe_dget cx.u1 (pe_var (i := i) (by rw [cx.hN]; exact hN) v1 v2 v3) pe_b hs) ⟨_, eo, ?_⟩
  rw [wp_bind] at q
  refine ha F ad σ H _ s (wp_mono (fun y q v H1 g1 r1 => ?_) (fun _ _ z => z) q)
  obtain ⟨o', eo', hct, _⟩ := ct_at (s.grow g1) hρ hc
  rw [eo] at eo'
  cases eo'
  unfold dgetR at q
  cases e : getC ct y with
  | none => rw [e] at q; exact q.elim
  | some z =>
    rw [e] at q
    obtain ⟨_, w, hw, ov⟩ := dget_of hct r1 e
    cases ov with
    | no => exact q.elim
    | so rv => exact ⟨o, _, rfl, hw, q _ _ g1 rv⟩
/-- d.get(a, b) -/
theorem ev_dgetx (cx : Cw CX k wd N sc X) (hv : visB sc x = true) (hN : N[i]? = some x) (hρ : ρ[i]? = some sl) (hc : sl.ct = some ct) (hk : ct.isD = true) (ha : Ev X wd ρ a ra) (hb : Ev X wd ρ b rb) (m : M2 X (.Name x p) "get" ap a b pos := by exact ⟨rfl, rfl, rfl, rfl⟩) :
    Ev X wd ρ (.Call (.Attribute (.Name x p) "get" ap) [a, b] [] pos) (ra.bind fun y => rb.bind fun z => dgetxR ct y z) := fun F ad σ H Q s q => by
  obtain ⟨v1, v2, v3⟩ := cx.vis hv
  obtain ⟨o, eo, hct0, _⟩ := ct_at s hρ hc
  have isd : IsD H o := by
    cases ct with
    | l xs => cases hk
    | k kvs => obtain ⟨vs, e, _⟩ := hct0; exact .inl ⟨vs, .inl e⟩
    | t kvs => obtain ⟨vs, e, _⟩ := hct0; exact .inr ⟨vs, .inl e⟩
  refine be (pe_dget2 cx.u1 (pe_var (i := i) (by rw [cx.hN]; exact hN) v1 v2 v3) pe_b pe_b m) ⟨_, eo, o, rfl, isd, ?_⟩
  rw [wp_bind] at q
  refine ha F ad σ H _ s (wp_mono (fun y q v H1 g1 r1 => ?_) (fun _ _ z => z) q)
  rw [wp_bind] at q
  have s1 := s.grow g1
  refine hb F ad σ H1 _ s1 (wp_mono (fun z q v2 H2 g2 r2 => ?_) (fun _ _ z => z.grow g1) q)
  have s2 := s1.grow g2
  obtain ⟨o', eo', hct, _⟩ := ct_at s2 hρ hc
  rw [eo] at eo'
  cases eo'
  unfold dgetxR at q
  cases e : getC ct y with
  | none => rw [e] at q; exact q.elim
  | some w =>
    rw [e] at q
    obtain ⟨_, w', hw, ov⟩ := dget_of hct (r1.stay (s1.stays g2)) e
    refine ⟨w', hw, q _ _ (g1.trans g2) ?_⟩
    cases ov with
    | no => exact r2
    | so rv => exact rv
/-- a in d -/
theorem ev_din (cx : Cw CX k wd N sc X) (hv : visB sc x = true) (hN : N[i]? = some x) (hρ : ρ[i]? = some sl) (hc : sl.ct = some ct) (ha : Ev X wd ρ a ra) : Ev X wd ρ (.Compare a [.In] [.Name x p] pos) (ra.bind fun y => dinR ct y) := fun F ad σ H Q s q => by
  obtain ⟨v1, v2, v3⟩ := cx.vis hv
  refine be (pe_cmp (pc_din cx.u1 pe_b (pe_var (i := i) (by rw [cx.hN]; exact hN) v1 v2 v3)) rfl) ?_
  rw [wp_bind] at q
  refine ha F ad σ H _ s (wp_mono (fun y q v H1 g1 r1 => ?_) (fun _ _ z => z) q)
  obtain ⟨o, eo, hct, _⟩ := ct_at (s.grow g1) hρ hc
  unfold dinR at q
  cases e : getC ct y with
  | none => rw [e] at q; exact q.elim
  | some z =>
    rw [e] at q
    obtain ⟨_, w, hw, ov⟩ := dget_of hct r1 e
    refine ⟨_, eo, o, w, rfl, hw, ?_⟩
    have e : w.isSome = z.isSome := by cases ov <;> rfl
    rw [e]
    exact q _ _ g1 (.bl _)
theorem ev_dnin (cx : Cw CX k wd N sc X) (hv : visB sc x = true) (hN : N[i]? = some x) (hρ : ρ[i]? = some sl) (hc : sl.ct = some ct) (ha : Ev X wd ρ a ra) : Ev X wd ρ (.Compare a [.NotIn] [.Name x p] pos) (ra.bind fun y => dninR ct y) := fun F ad σ H Q s q => by
  obtain ⟨v1, v2, v3⟩ := cx.vis hv
  refine be (pe_cmp (pc_dnotin cx.u1 pe_b (pe_var (i := i) (by rw [cx.hN]; exact hN) v1 v2 v3)) rfl) ?_
  rw [wp_bind] at q
  refine ha F ad σ H _ s (wp_mono (fun y q v H1 g1 r1 => ?_) (fun _ _ z => z) q)
  obtain ⟨o, eo, hct, _⟩ := ct_at (s.grow g1) hρ hc
  unfold dninR at q
  cases e : getC ct y with
  | none => rw [e] at q; exact q.elim
  | some z =>
    rw [e] at q
    obtain ⟨_, w, hw, ov⟩ := dget_of hct r1 e
    refine ⟨_, eo, o, w, rfl, hw, ?_⟩
    have e : w.isSome = z.isSome := by cases ov <;> rfl
    rw [e]
    exact q _ _ g1 (.bl _)
/-- an expression that is a bool, as a test -/
theorem evt_of (h : Ev X wd ρ a ra) (he : ∀ whole, isTrue a X.env whole = (do let v ← whole; standAt a.pos; holding [v] (truthy v))) : EvT X wd ρ a (ra.bind fun x => boolR x) := evt_val h.look he
end
end Pu
/-! Pz: statements about objects of a def's own. -/
namespace Pu
open PySem PySem.Spec PyProof.Rows L2 R
def Ct.sl : Ct → Sl
  | .l xs => .l xs
  | .k kvs => .k kvs
  | .t kvs => .kt kvs
theorem ct_sl (c : Ct) : c.sl.ct = some c := by cases c <;> rfl
theorem sl_own (c : Ct) : c.sl.own = true := by cases c <;> rfl
theorem sl_ok {K : PySem.W.Frag} {dr : Drs} {F B : Addr → Prop} {H : Hp} {x : Option (Option V)} {a : Addr} {c : Ct} (e : x = some (some (.ref a))) (h : HasCt K B H a c) : SlOk K dr F B H x a c.sl := by
  cases c <;> exact ⟨e, h⟩
theorem ok_sl {K : PySem.W.Frag} {dr : Drs} {F B : Addr → Prop} {H : Hp} {x : Option (Option V)} {a : Addr} {c : Ct} (h : SlOk K dr F B H x a c.sl) : x = some (some (.ref a)) ∧ HasCt K B H a c := by
  cases c <;> exact h
def dputK (kvs : List (Key × D)) (k v : D) : R (List (Key × D)) := match keyOf k with
  | some k => if kvs.length < sizeLine then ret (putD kvs k v) else bad
  | none => bad
def dputT (kvs : List (List Key × D)) (k v : D) : R (List (List Key × D)) := match keysOf k with
  | some k => if kvs.length < sizeLine then ret (putD kvs k v) else bad
  | none => bad
/-- d.pop(k) -/
def dpopK (kvs : List (Key × D)) (k : D) : R (D × List (Key × D)) := match keyOf k with
  | some k => (match valD kvs k with | some v => ret (v, dropD kvs k) | none => bad)
  | none => bad
def popK {α : Type} (kvs : List (Key × D)) (y : D) (o : List (Key × D) → R α) : R α := (dpopK kvs y).bind fun z => o z.2
section
variable {CX : CXT} {k : Nat} {wd : Wd} {N : List Str} {sc : Scope} {X : Cx} {S S' S1 B B' T : Type} {eS : S → List Sl} {eS1 : S1 → List Sl} {eS' : S' → List Sl} {eB : B → List Sl} {eB' : B' → List Sl} {eT : T → List Sl} {ρ ρ1 : List Sl} {e a b tg iter elt : Expr} {ifs : List Expr} {rest A1 B1 : List Stmt} {pos p py ap : Pos} {ra rb : R D} {x : Str} {i : Nat}
/-- nothing is known any more -/
theorem run_bad {ss : List Stmt} : Run X wd eS eB eT ρ ss (bad : R (Out S B T)) := fun F ad σ H Dn sk q => q.elim
/-- x = {} -/
theorem run_newK (c : Cd CX k wd N sc X) {o : R (Out S B T)} (hx : lcB sc x = true) (hN : N[i]? = some x) (hi : wd.pin i = false) (hr : Run X wd eS eB eT (ρ.set i (.k [])) rest o)
    (hs : swapsWith (.Dict [] [] py) (some (.Name x p)) pos.line X.env = pure false := by rfl) : Run X wd eS eB eT ρ (.Assign [.Name x p] (.Dict [] [] py) pos :: rest) o := fun F ad σ H Dn sk q => by
  refine bss (pss_cons (ps_set c.nd' (c.at hN) (c.loc hx) pe_dnewK hs (.inl (c.fn x))) pss_b) ?_
  intro a ha
  exact hr F _ _ _ Dn (sk.setOwn (Grow.same (same_upd ha)) ha rfl ⟨rfl, [], upd_same, .nil⟩) (wp_adv (.trans (.setOwn ha hi) (.grow (Grow.same (same_upd ha)))) q)
theorem run_newT (c : Cd CX k wd N sc X) {o : R (Out S B T)} (hx : lcB sc x = true) (hN : N[i]? = some x) (hi : wd.pin i = false) (hr : Run X wd eS eB eT (ρ.set i (.kt [])) rest o)
    (hs : swapsWith (.Dict [] [] py) (some (.Name x p)) pos.line X.env = pure false := by rfl) : Run X wd eS eB eT ρ (.Assign [.Name x p] (.Dict [] [] py) pos :: rest) o := fun F ad σ H Dn sk q => by
  refine bss (pss_cons (ps_set c.nd' (c.at hN) (c.loc hx) pe_dnewT hs (.inl (c.fn x))) pss_b) ?_
  intro a ha
  exact hr F _ _ _ Dn (sk.setOwn (Grow.same (same_upd ha)) ha rfl ⟨rfl, [], upd_same, .nil⟩) (wp_adv (.trans (.setOwn ha hi) (.grow (Grow.same (same_upd ha)))) q)
theorem stay_upd {F : Addr → Prop} {ad : Nat → Addr} {H : Hp} {i : Nat} {o : HO} (ow : Own ρ i) : Stay (Ban F ρ ad) H (upd H (ad i) o) := fun b u eb nb => by
  rw [upd_ne fun z => nb (by rw [z]; exact .inr ⟨i, ow, rfl⟩)]
  exact eb
/-- d[a] = e, keys ints and texts -/
theorem run_dputK (c : Cd CX k wd N sc X) {kvs : List (Key × D)} {o : List (Key × D) → R (Out S B T)} (hx : visB sc x = true) (hN : N[i]? = some x) (hρ : ρ[i]? = some (.k kvs)) (hv : Ev X wd ρ e rb) (hk : Ev X wd ρ a ra) (hr : ∀ kvs, Run X wd eS eB eT (ρ.set i (.k kvs)) rest (o kvs))
    (hs : swapsWith e (some (.Subscript (.Name x p) a py)) pos.line X.env = pure false := by rfl) : Run X wd eS eB eT ρ (.Assign [.Subscript (.Name x p) a py] e pos :: rest) (rb.bind fun v => ra.bind fun y => (dputK kvs y v).bind o) := fun F ad σ H Dn sk q => by
  obtain ⟨v1, v2, v3⟩ := c.vis hx
  have ow : Own ρ i := ⟨_, hρ, rfl⟩
  refine bss (pss_cons (ps_dput c.u1 (pe_var (i := i) (c.at hN) v1 v2 v3) pe_b pe_b hs) pss_b) ?_
  refine step_ev (o := fun v => ra.bind fun y => (dputK kvs y v).bind o) hv sk q fun d v H1 g1 r1 q => ?_
  have s1 := sk.grow g1
  obtain ⟨ev, _⟩ := s1.sl i _ hρ
  refine ⟨_, ev, step_ev (o := fun y => (dputK kvs y d).bind o) hk s1 q fun y w H2 g2 r2 q => ?_⟩
  have s2 := s1.grow g2
  obtain ⟨ev2, vs, e2, pr⟩ := s2.sl i _ hρ
  unfold dputK at q
  cases ek : keyOf y with
  | none => rw [ek] at q; exact q.elim
  | some k =>
    rw [ek, wp_bind] at q
    obtain ⟨hz, q⟩ := wp_ite q
    have rv := r1.stay (s1.stays g2)
    rw [key_rep r2 ek]
    refine ⟨ad i, _, rfl, DPut.k e2 (by rw [paired_length pr]; exact hz), ?_⟩
    refine hr _ F ad σ _ Dn (s2.mut ow rfl ⟨ev2, _, upd_same, ?_⟩) (wp_adv (.mut s2 ow) q)
    exact paired_put (paired_mono (fun _ _ z => ⟨z.1, z.2.stay (stay_upd ow)⟩) pr) (rv.stay (stay_upd ow))
theorem run_dputT (c : Cd CX k wd N sc X) {kvs : List (List Key × D)} {o : List (List Key × D) → R (Out S B T)} (hx : visB sc x = true) (hN : N[i]? = some x) (hρ : ρ[i]? = some (.kt kvs)) (hv : Ev X wd ρ e rb) (hk : Ev X wd ρ a ra) (hr : ∀ kvs, Run X wd eS eB eT (ρ.set i (.kt kvs)) rest (o kvs))
    (hs : swapsWith e (some (.Subscript (.Name x p) a py)) pos.line X.env = pure false := by rfl) : Run X wd eS eB eT ρ (.Assign [.Subscript (.Name x p) a py] e pos :: rest) (rb.bind fun v => ra.bind fun y => (dputT kvs y v).bind o) := fun F ad σ H Dn sk q => by
  obtain ⟨v1, v2, v3⟩ := c.vis hx
  have ow : Own ρ i := ⟨_, hρ, rfl⟩
  refine bss (pss_cons (ps_dput c.u1 (pe_var (i := i) (c.at hN) v1 v2 v3) pe_b pe_b hs) pss_b) ?_
  refine step_ev (o := fun v => ra.bind fun y => (dputT kvs y v).bind o) hv sk q fun d v H1 g1 r1 q => ?_
  have s1 := sk.grow g1
  obtain ⟨ev, _⟩ := s1.sl i _ hρ
  refine ⟨_, ev, step_ev (o := fun y => (dputT kvs y d).bind o) hk s1 q fun y w H2 g2 r2 q => ?_⟩
  have s2 := s1.grow g2
  obtain ⟨ev2, vs, e2, pr⟩ := s2.sl i _ hρ
  unfold dputT at q
  cases ek : keysOf y with
  | none => rw [ek] at q; exact q.elim
  | some k =>
    rw [ek, wp_bind] at q
    obtain ⟨hz, q⟩ := wp_ite q
    have rv := r1.stay (s1.stays g2)
    cases y with
    | tuple ds =>
      obtain ⟨b, ws, rfl, h1, rr⟩ := r2.tuple
      have ew := keys_reps rr ek
      subst ew
      refine ⟨ad i, _, rfl, DPut.t e2 h1.1 (by rw [paired_length pr]; exact hz), ?_⟩
      refine hr _ F ad σ _ Dn (s2.mut ow rfl ⟨ev2, _, upd_same, ?_⟩) (wp_adv (.mut s2 ow) q)
      exact paired_put (paired_mono (fun _ _ z => ⟨z.1, z.2.stay (stay_upd ow)⟩) pr) (rv.stay (stay_upd ow))
    | _ => cases ek
/-- d.pop(a) -/
theorem run_dpopK (c : Cd CX k wd N sc X) {kvs : List (Key × D)} {o : List (Key × D) → R (Out S B T)} (hx : visB sc x = true) (hN : N[i]? = some x) (hρ : ρ[i]? = some (.k kvs)) (hk : Ev X wd ρ a ra) (hr : ∀ kvs, Run X wd eS eB eT (ρ.set i (.k kvs)) rest (o kvs))
    (m : M1 X (.Name x p) "pop" ap a pos := by exact ⟨rfl, rfl, rfl, rfl⟩) : Run X wd eS eB eT ρ (.Expr (.Call (.Attribute (.Name x p) "pop" ap) [a] [] pos) py :: rest) (ra.bind fun y => popK kvs y o) := fun F ad σ H Dn sk q => by
  obtain ⟨v1, v2, v3⟩ := c.vis hx
  have ow : Own ρ i := ⟨_, hρ, rfl⟩
  refine bss (pss_cons (ps_expr (pe_dpop1 (pe_var (i := i) (c.at hN) v1 v2 v3) pe_b m)) pss_b) ?_
  obtain ⟨ev, vs0, e0, _⟩ := sk.sl i _ hρ
  refine ⟨_, ev, ad i, rfl, .inl ⟨vs0, .inl e0⟩, step_ev (o := fun y => (dpopK kvs y).bind fun z => o z.2) hk sk q fun y w H2 g2 r2 q => ?_⟩
  have s2 := sk.grow g2
  obtain ⟨ev2, vs, e2, pr⟩ := s2.sl i _ hρ
  unfold dpopK at q
  cases ek : keyOf y with
  | none => rw [ek] at q; exact q.elim
  | some k =>
    rw [ek] at q
    simp only at q
    have hv := paired_val pr k
    cases evd : valD kvs k with
    | none => rw [evd] at q; exact q.elim
    | some d =>
      rw [evd] at q hv
      generalize hw : valV vs k = ov at hv
      cases hv with
      | so rv =>
        rw [key_rep r2 ek]
        refine ⟨vs, k, _, e2, rfl, hw, ?_⟩
        exact hr _ F ad σ _ Dn (s2.mut ow rfl ⟨ev2, _, upd_same, paired_drop (paired_mono (fun _ _ z => ⟨z.1, z.2.stay (stay_upd ow)⟩) pr)⟩) (wp_adv (.mut s2 ow) q)
end
/-! ### calls with objects -/
inductive Ar where
  | d (x : D) | b (c : Ct) | o (c : Ct) | w
def Ar.sl : Ar → Sl
  | .d x => .d x
  | .b c => .b c
  | .o c => c.sl
  | .w => .w
/-- arguments: data, borrowed objects, objects that the def may change, the draws -/
inductive ArsOk (K : PySem.W.Frag) (dr : Drs) (F B : Addr → Prop) (H : Hp) : List V → List Ar → List Addr → Prop
  | nil : ArsOk K dr F B H [] [] []
  | d {v : V} {x : D} {vs : List V} {as : List Ar} {os : List Addr} : Rep K B H v x → ArsOk K dr F B H vs as os → ArsOk K dr F B H (v :: vs) (.d x :: as) os
  | b {e : Addr} {c : Ct} {vs : List V} {as : List Ar} {os : List Addr} : F e → ¬ Has dr e → HasCt K B H e c → ArsOk K dr F B H vs as os → ArsOk K dr F B H (.ref e :: vs) (.b c :: as) os
  | o {e : Addr} {c : Ct} {vs : List V} {as : List Ar} {os : List Addr} : ¬ Has dr e → HasCt K B H e c → ArsOk K dr F B H vs as os → ArsOk K dr F B H (.ref e :: vs) (.o c :: as) (e :: os)
  | w {e l : Addr} {vs : List V} {as : List Ar} {os : List Addr} : dr = some (e, l) → ArsOk K dr F B H vs as os → ArsOk K dr F B H (.ref e :: vs) (.w :: as) os
/-- what they hold behind the call -/
inductive OutsOk (K : PySem.W.Frag) (B : Addr → Prop) (H : Hp) : List Addr → List Ct → Prop
  | nil : OutsOk K B H [] []
  | cons {a : Addr} {c : Ct} {os : List Addr} {cs : List Ct} : HasCt K B H a c → OutsOk K B H os cs → OutsOk K B H (a :: os) (c :: cs)
structure GrowO (dr : Drs) (os : List Addr) (H H' : Hp) : Prop where
  keep : ∀ b o, H b = some o → ¬ Has dr b → b ∉ os → H' b = some o
  draw : ∀ a l, dr = some (a, l) → DrAt H a l → DrAt H' a l
theorem GrowO.of {dr : Drs} {os : List Addr} {H H1 H' : Hp} (g : Grow dr H H1) (h : GrowO dr os H1 H') : GrowO dr os H H' := ⟨fun b o e n m => h.keep b o (g.keep b o e n) n m, fun a l e d => h.draw a l e (g.draw a l e d)⟩
theorem GrowO.nil {dr : Drs} {H H' : Hp} (h : GrowO dr [] H H') : Grow dr H H' := ⟨fun b o e n => h.keep b o e n (by simp), h.draw⟩
/-- a def with objects: m of its arguments, fd the value, fo what the objects hold behind it; own: it may hand back new objects -/
def spX (K : PySem.W.Frag) (own : Bool) {β : Type} (fd : β → D) (fo : β → List Ct) (m : List Ar → R β) : Sp := fun vs H Q _ => ∃ (dr : Drs) (F : Addr → Prop) (as : List Ar) (os : List Addr),
  Fo K H F ∧ (∀ a l, dr = some (a, l) → F a ∧ F l ∧ l ≠ a ∧ DrAt H a l) ∧ os.Nodup ∧ (∀ a ∈ os, ¬ F a) ∧ ArsOk K dr F (fun b => F b ∨ b ∈ os) H vs as os ∧
  (m as).wp (fun r => ∀ v H', GrowO dr os H H' → OutsOk K (fun b => F b ∨ b ∈ os) H' os (fo r) → RetO own dr K (fun a => H a = none) (fun b => F b ∨ b ∈ os) H' v (fd r) → Q v H') fun _ _ => False
section
variable {K : PySem.W.Frag} {dr : Drs} {F F' B B' : Addr → Prop} {H H' : Hp} {vs : List V} {as : List Ar} {os : List Addr}
theorem ArsOk.there (h : ArsOk K dr F B H vs as os) : ∀ a ∈ os, ∃ o, H a = some o := by
  induction h with
  | nil => simp
  | d _ _ ih => exact ih
  | b _ _ _ _ ih => exact ih
  | o _ c _ ih =>
    intro a ha
    rcases List.mem_cons.mp ha with rfl | ha
    · exact c.some
    · exact ih a ha
  | w _ _ ih => exact ih
theorem ArsOk.grow (h : ArsOk K dr F B H vs as os) (st : Stay B H H') (g : Grow dr H H') : ArsOk K dr F B H' vs as os := by
  induction h with
  | nil => exact .nil
  | d r _ ih => exact .d (r.stay st) ih
  | b f n c _ ih => exact .b f n (c.mono (fun _ _ r => r.stay st) (fun _ _ r => r.stay st) fun o eo => g.keep _ o eo n) ih
  | o n c _ ih => exact .o n (c.mono (fun _ _ r => r.stay st) (fun _ _ r => r.stay st) fun o eo => g.keep _ o eo n) ih
  | w e _ ih => exact .w e ih
theorem ArsOk.append {vs' : List V} {as' : List Ar} {os' : List Addr} (h : ArsOk K dr F B H vs as os) (h' : ArsOk K dr F B H vs' as' os') : ArsOk K dr F B H (vs ++ vs') (as ++ as') (os ++ os') := by
  induction h with
  | nil => exact h'
  | d r _ ih => exact .d r ih
  | b f n c _ ih => exact .b f n c ih
  | o n c _ ih => exact .o n c ih
  | w e _ ih => exact .w e ih
theorem ArsOk.length (h : ArsOk K dr F B H vs as os) : vs.length = as.length := by
  induction h with
  | nil => rfl
  | d r _ ih => simp [ih]
  | b f n c _ ih => simp [ih]
  | o n c _ ih => simp [ih]
  | w e _ ih => simp [ih]
end
/-- what is foreign to a def that may change the slots I -/
def FX (F : Addr → Prop) (ρ : List Sl) (ad : Nat → Addr) (I : List Nat) (b : Addr) : Prop := F b ∨ ∃ j, j ∉ I ∧ Own ρ j ∧ ad j = b
/-- M: the arguments es (behind pre, with the objects of J so far), then m -/
def CallS (X : Cx) (wd : Wd) (ρ : List Sl) (I J : List Nat) (pre : List Ar) (es : List Expr) {β : Type} (M : R β) (m : List Ar → R β) : Prop := ∀ (F : Addr → Prop) (ad : Nat → Addr) (σ : L2.St) (H H0 : Hp) (QQ : β → Prop) (EE : Nat → D → Prop) (vs0 : List V), StOk X.K wd.dr F ρ σ H ad → Grow wd.dr H0 H →
  ArsOk X.K wd.dr (FX F ρ ad I) (Ban F ρ ad) H vs0 pre (J.map ad) → (∀ c x, EE c x → XP X wd F ρ ad H0 c x) → M.wp QQ EE →
  BA X es σ H fun vs H1 => Grow wd.dr H0 H1 ∧ ∃ as, ArsOk X.K wd.dr (FX F ρ ad I) (Ban F ρ ad) H1 (vs0 ++ vs) as (I.map ad) ∧ (m as).wp QQ EE
section
variable {CX : CXT} {k : Nat} {wd : Wd} {N : List Str} {sc : Scope} {X : Cx} {ρ : List Sl} {I J : List Nat} {pre : List Ar} {es : List Expr} {a : Expr} {ra : R D} {pos p : Pos} {x : Str} {i : Nat} {β : Type} {m : List Ar → R β}
theorem cs_nil (hI : J = I) : CallS X wd ρ I J pre [] (m pre) m := fun F ad σ H H0 QQ EE vs0 s g h _ q => by
  subst hI
  exact ba pa_nil ⟨g, pre, by rw [List.append_nil]; exact h, q⟩
theorem cs_d {M : D → R β} (ha : Ev X wd ρ a ra) (hr : ∀ d, CallS X wd ρ I J (pre ++ [.d d]) es (M d) m) (hs : Plain X a := by exact fun _ => rfl) : CallS X wd ρ I J pre (a :: es) (ra.bind M) m := fun F ad σ H H0 QQ EE vs0 s g h hE q => by
  refine ba (pa_cons pe_b pa_b (hs _)) ?_
  rw [wp_bind] at q
  refine ha F ad σ H _ s (wp_mono (fun d q v H1 g1 r1 => ?_) (fun c x z => (hE c x z).grow g) q)
  have s1 := s.grow g1
  have := hr d F ad σ H1 H0 QQ EE (vs0 ++ [v]) s1 (g.trans g1) (by
    have := (h.grow (s.stays g1) g1).append (ArsOk.d r1 .nil)
    rw [List.append_nil] at this
    exact this) hE q
  refine fun pos pins s' I' => thn (this pos pins s' I') fun us s'' ⟨vs, H2, I2, rr, hq⟩ => ⟨vs, H2, I2, rr, ?_⟩
  obtain ⟨h1, as, h2, h3⟩ := hq
  rw [List.append_assoc] at h2
  exact ⟨h1, as, h2, h3⟩
theorem cs_var {M : R β} {ar : Ar} {os : List Nat} (c : Cw CX k wd N sc X) (hv : visB sc x = true) (hN : N[i]? = some x)
    (har : ∀ (F : Addr → Prop) (ad : Nat → Addr) (σ : L2.St) (H : Hp), StOk X.K wd.dr F ρ σ H ad → ∃ v, σ[i]? = some (some v) ∧ ArsOk X.K wd.dr (FX F ρ ad I) (Ban F ρ ad) H [v] [ar] (os.map ad))
    (hr : CallS X wd ρ I (J ++ os) (pre ++ [ar]) es M m) : CallS X wd ρ I J pre (.Name x p :: es) M m := fun F ad σ H H0 QQ EE vs0 s g h hE q => by
  obtain ⟨v1, v2, v3⟩ := c.vis hv
  obtain ⟨v, ev, ha⟩ := har F ad σ H s
  refine ba (pa_cons (pe_var (i := i) (by rw [c.hN]; exact hN) v1 v2 v3) pa_b rfl) ⟨v, ev, ?_⟩
  have := hr F ad σ H H0 QQ EE (vs0 ++ [v]) s g (by
    rw [List.map_append]
    exact h.append ha) hE q
  refine fun pos pins s' I' => thn (this pos pins s' I') fun us s'' ⟨vs, H2, I2, rr, hq⟩ => ⟨vs, H2, I2, rr, ?_⟩
  obtain ⟨h1, as, h2, h3⟩ := hq
  rw [List.append_assoc] at h2
  exact ⟨h1, as, h2, h3⟩
/-- an object that the def only looks at -/
theorem cs_b (c : Cw CX k wd N sc X) {M : R β} {sl : Sl} {ct : Ct} (hv : visB sc x = true) (hN : N[i]? = some x) (hρ : ρ[i]? = some sl) (hc : sl.ct = some ct) (hI : i ∉ I) (hr : CallS X wd ρ I J (pre ++ [.b ct]) es M m) : CallS X wd ρ I J pre (.Name x p :: es) M m :=
  cs_var c (os := []) hv hN (fun F ad σ H s => by
    obtain ⟨a, e, h, _, hd⟩ := ct_at s hρ hc
    refine ⟨_, e, .b ?_ hd h .nil⟩
    have z := s.sl i sl hρ
    cases sl with
    | b c' =>
      obtain ⟨a', h1, h2, _⟩ := z
      rw [e] at h1
      cases h1
      exact .inl h2
    | l xs => have := z.1; rw [e] at this; cases this; exact .inr ⟨i, hI, ⟨_, hρ, rfl⟩, rfl⟩
    | k xs => have := z.1; rw [e] at this; cases this; exact .inr ⟨i, hI, ⟨_, hρ, rfl⟩, rfl⟩
    | kt xs => have := z.1; rw [e] at this; cases this; exact .inr ⟨i, hI, ⟨_, hρ, rfl⟩, rfl⟩
    | _ => cases hc) (by rw [List.append_nil]; exact hr)
/-- an object that the def may change -/
theorem cs_o (c : Cw CX k wd N sc X) {M : R β} {sl : Sl} {ct : Ct} (hv : visB sc x = true) (hN : N[i]? = some x) (hρ : ρ[i]? = some sl) (hc : ct.sl = sl) (hr : CallS X wd ρ I (J ++ [i]) (pre ++ [.o ct]) es M m) : CallS X wd ρ I J pre (.Name x p :: es) M m :=
  cs_var c (os := [i]) hv hN (fun F ad σ H s => by
    subst hc
    obtain ⟨e, h⟩ := ok_sl (s.sl i _ hρ)
    exact ⟨_, e, .o (fun z => s.nf i ⟨_, hρ, sl_own ct⟩ (s.dF z)) h .nil⟩) hr
/-- the draws -/
theorem cs_w (c : Cw CX k wd N sc X) {M : R β} (hv : visB sc x = true) (hN : N[i]? = some x) (hρ : ρ[i]? = some .w) (hr : CallS X wd ρ I J (pre ++ [.w]) es M m) : CallS X wd ρ I J pre (.Name x p :: es) M m :=
  cs_var c (os := []) hv hN (fun F ad σ H s => by
    obtain ⟨b, l, e1, e2⟩ := s.sl i _ hρ
    exact ⟨_, e2, .w e1 .nil⟩) (by rw [List.append_nil]; exact hr)
end
/-! ### behind a call -/
def setC : List Sl → List Nat → List Ct → List Sl
  | ρ, i :: I, c :: cs => setC (ρ.set i c.sl) I cs
  | ρ, _, _ => ρ
theorem own_sets {ρ : List Sl} {i j : Nat} {c : Ct} (oi : Own ρ i) : Own (ρ.set i c.sl) j ↔ Own ρ j := by
  by_cases h : j = i
  · subst h
    refine ⟨fun _ => oi, fun _ => ⟨c.sl, ?_, sl_own c⟩⟩
    obtain ⟨s, e, _⟩ := oi
    rw [List.getElem?_set_self]
    exact (List.getElem?_eq_some_iff.mp e).1
  · constructor
    · rintro ⟨s, e, q⟩
      rw [List.getElem?_set_ne (Ne.symm h)] at e
      exact ⟨s, e, q⟩
    · rintro ⟨s, e, q⟩
      exact ⟨s, by rw [List.getElem?_set_ne (Ne.symm h)]; exact e, q⟩
theorem own_setC : ∀ {I : List Nat} {cs : List Ct} {ρ : List Sl}, (∀ i ∈ I, Own ρ i) → ∀ j, Own (setC ρ I cs) j ↔ Own ρ j
  | [], cs, ρ, _, j => by cases cs <;> exact Iff.rfl
  | i :: I, [], ρ, _, j => Iff.rfl
  | i :: I, c :: cs, ρ, h, j => by
    have oi := h i List.mem_cons_self
    exact (own_setC (I := I) (cs := cs) (ρ := ρ.set i c.sl) (fun i' hi => (own_sets oi).mpr (h i' (List.mem_cons_of_mem _ hi))) j).trans (own_sets oi)
theorem setC_length : ∀ {I : List Nat} {cs : List Ct} {ρ : List Sl}, (setC ρ I cs).length = ρ.length
  | [], cs, ρ => by cases cs <;> rfl
  | i :: I, [], ρ => rfl
  | i :: I, c :: cs, ρ => by
    unfold setC
    rw [setC_length, List.length_set]
theorem setC_at {K : PySem.W.Frag} {B : Addr → Prop} {H : Hp} {ad : Nat → Addr} : ∀ {I : List Nat} {cs : List Ct} {ρ : List Sl}, I.Nodup → OutsOk K B H (I.map ad) cs → ∀ {j : Nat} {s : Sl}, (setC ρ I cs)[j]? = some s → (j ∈ I ∧ ∃ c : Ct, s = c.sl ∧ HasCt K B H (ad j) c) ∨ (j ∉ I ∧ ρ[j]? = some s)
  | [], cs, ρ, _, _, j, s, e => by cases cs <;> exact .inr ⟨by simp, e⟩
  | i :: I, [], ρ, _, h, j, s, e => by cases h
  | i :: I, c :: cs, ρ, nd, h, j, s, e => by
    rw [List.map_cons] at h
    cases h with
    | cons h1 h2 =>
      rw [List.nodup_cons] at nd
      rcases setC_at (ρ := ρ.set i c.sl) nd.2 h2 e with ⟨hj, z⟩ | ⟨hj, z⟩
      · exact .inl ⟨List.mem_cons_of_mem _ hj, z⟩
      · by_cases hi : j = i
        · subst hi
          have hl : j < ρ.length := by
            have := (List.getElem?_eq_some_iff.mp z).1
            rw [List.length_set] at this
            exact this
          rw [List.getElem?_set_self hl] at z
          cases z
          exact .inl ⟨List.mem_cons_self, c, rfl, h1⟩
        · rw [List.getElem?_set_ne (Ne.symm hi)] at z
          exact .inr ⟨fun m => by
            rcases List.mem_cons.mp m with m | m
            · exact hi m
            · exact hj m, z⟩
section
variable {K : PySem.W.Frag} {F : Addr → Prop} {ρ : List Sl} {σ : L2.St} {H H' : Hp} {ad : Nat → Addr} {I : List Nat} {cs : List Ct}
theorem StOk.call {dr : Drs} (s : StOk K dr F ρ σ H ad) (hI : ∀ i ∈ I, Own ρ i) (nd : I.Nodup) (g : GrowO dr (I.map ad) H H') (ho : OutsOk K (Ban F ρ ad) H' (I.map ad) cs) : StOk K dr F (setC ρ I cs) σ H' ad := by
  have ow := fun j => own_setC (I := I) (cs := cs) (ρ := ρ) hI j
  have bn : ∀ b, Ban F (setC ρ I cs) ad b → Ban F ρ ad b := by
    rintro b (z | ⟨j, o, e⟩)
    · exact .inl z
    · exact .inr ⟨j, (ow j).mp o, e⟩
  have nF : ∀ {b}, F b → b ∉ I.map ad := fun {b} fb hm => by
    obtain ⟨i, hi, e⟩ := List.mem_map.mp hm
    exact s.nf i (hI i hi) (by rw [e]; exact fb)
  have st : Stay (Ban F ρ ad) H H' := fun b o e nb => g.keep b o e (fun z => nb (s.drF z)) fun hm => by
    obtain ⟨i, hi, e⟩ := List.mem_map.mp hm
    exact nb (.inr ⟨i, hI i hi, e⟩)
  refine ⟨by rw [setC_length]; exact s.len, fun a b x y => s.inj a b ((ow a).mp x) ((ow b).mp y), fun a x => s.nf a ((ow a).mp x), fun b fb => ?_, fun a l e => ?_, fun P k => g.keep _ _ (s.tb P k) (fun ⟨a, l, e, z⟩ => (s.dk a l e).2.2.2.noT z (s.tb P k)) (fun hm => by
    obtain ⟨i, hi, e⟩ := List.mem_map.mp hm
    exact s.ownT (hI i hi) (by rw [e]; exact s.tb P k)), fun j sl e => ?_⟩
  · obtain ⟨o, e, nt⟩ := s.fa b fb
    by_cases z : Has dr b
    · obtain ⟨a, l, ea, z⟩ := z
      obtain ⟨_, _, _, q⟩ := s.dk a l ea
      have q := g.draw a l ea q
      rcases z with rfl | rfl
      · exact q.bd
      · exact q.bdl
    · exact ⟨o, g.keep b o e z (nF fb), nt⟩
  · obtain ⟨f, fl, ne, q⟩ := s.dk a l e
    exact ⟨f, fl, ne, g.draw a l e q⟩
  · rcases setC_at nd ho e with ⟨hj, c, rfl, h⟩ | ⟨hj, e⟩
    · obtain ⟨s0, e0, q0⟩ := hI j hj
      have hs : σ[j]? = some (some (.ref (ad j))) := by
        have z := s.sl j s0 e0
        cases s0 with
        | l xs => exact z.1
        | k xs => exact z.1
        | kt xs => exact z.1
        | o C fs => exact z.1
        | v r xs => exact z.1
        | _ => cases q0
      exact sl_ok hs (h.mono (fun _ _ r => r.weak bn) (fun _ _ r => r.weak bn) fun _ q => q)
    · refine (s.sl j sl e).mono (fun v d r => (r.stay st).weak bn) (fun v d r => (r.stay st).weak bn) (fun hs o eo => ?_) (fun _ z => z) (fun e' o fe n eo => g.keep e' o eo n (nF fe))
      refine g.keep _ o eo (fun z => s.nf j ⟨_, e, hs⟩ (s.dF z)) fun hm => ?_
      obtain ⟨i, hi, ei⟩ := List.mem_map.mp hm
      have := s.inj i j (hI i hi) ⟨_, e, hs⟩ ei
      subst this
      exact hj hi
theorem Adv.call {wd : Wd} (s : StOk K wd.dr F ρ σ H ad) (hI : ∀ i ∈ I, Own ρ i) (g : GrowO wd.dr (I.map ad) H H') : Adv wd ρ ad H (setC ρ I cs) ad H' := by
  refine ⟨fun b o e n m => ⟨g.keep b o e n fun hm => ?_, fun ⟨j, oj, ej⟩ => m ⟨j, (own_setC hI j).mp oj, ej⟩⟩, g.draw, fun _ _ => rfl⟩
  obtain ⟨i, hi, ei⟩ := List.mem_map.mp hm
  exact m ⟨i, hI i hi, ei⟩
end
end Pu
/-! Pcl: calls with objects; defs with objects. -/
namespace Pu
open PySem PySem.Spec PyProof.Rows L2 R
theorem XPs.no {X : Cx} {wd : Wd} (W : NoW wd) {F : Addr → Prop} {ρ : List Sl} {ad : Nat → Addr} {σ : L2.St} {H : Hp} (st : StOk X.K wd.dr F ρ σ H ad) {c : Nat} {x : D} (h : XPs X wd F ρ ad H c x) : False := W.xp (h.xp st)
theorem ban_eq {F : Addr → Prop} {ρ : List Sl} {ad : Nat → Addr} {I : List Nat} (hI : ∀ i ∈ I, Own ρ i) : (fun b => FX F ρ ad I b ∨ b ∈ I.map ad) = Ban F ρ ad := by
  funext b
  apply propext
  constructor
  · rintro ((z | ⟨j, _, o, e⟩) | z)
    · exact .inl z
    · exact .inr ⟨j, o, e⟩
    · obtain ⟨i, hi, e⟩ := List.mem_map.mp z
      exact .inr ⟨i, hI i hi, e⟩
  · rintro (z | ⟨j, o, e⟩)
    · exact .inl (.inl z)
    · by_cases hj : j ∈ I
      · exact .inr (List.mem_map.mpr ⟨j, hj, e⟩)
      · exact .inl (.inr ⟨j, hj, o, e⟩)
theorem nodup_ads {K : PySem.W.Frag} {dr : Drs} {F : Addr → Prop} {ρ : List Sl} {σ : L2.St} {H : Hp} {ad : Nat → Addr} (s : StOk K dr F ρ σ H ad) : ∀ {I : List Nat}, (∀ i ∈ I, Own ρ i) → I.Nodup → (I.map ad).Nodup
  | [], _, _ => List.nodup_nil
  | i :: I, h, nd => by
    rw [List.nodup_cons] at nd
    rw [List.map_cons, List.nodup_cons]
    refine ⟨fun z => ?_, nodup_ads s (fun j hj => h j (List.mem_cons_of_mem _ hj)) nd.2⟩
    obtain ⟨j, hj, e⟩ := List.mem_map.mp z
    have := s.inj j i (h j (List.mem_cons_of_mem _ hj)) (h i List.mem_cons_self) e
    subst this
    exact nd.1 hj
section
variable {CX : CXT} {k j : Nat} {wd : Wd} {N : List Str} {sc : Scope} {X : Cx} {ρ : List Sl} {I : List Nat} {es : List Expr} {e : Expr} {pos p py : Pos} {f x : Str} {i : Nat} {β : Type} {m : List Ar → R β} {fd : β → D} {fo : β → List Ct} {own : Bool} {M : R β}
theorem call_read [Calm wd] (c : Cw CX k wd N sc X) (W : NoW wd) (G : Df X.prog X.w X.K X.mg X.base CX j f (spX X.K own fd fo m)) (hj : j ≤ k) (hg : glB sc f = true) (hI : ∀ i ∈ I, Own ρ i) (nd : I.Nodup) (hcs : CallS X wd ρ I [] [] (e :: es) M m)
    (he : starEach (e :: es) X.env = (false, eval e X.env) :: starEach es X.env) (hpl : (backTo pos (starEach es X.env)).any (·.1) = false) {F : Addr → Prop} {ad : Nat → Addr} {σ : L2.St} {H : Hp} (s : StOk X.K wd.dr F ρ σ H ad) {Q : VK}
    (q : M.wp (fun r => ∀ v H', GrowO wd.dr (I.map ad) H H' → OutsOk X.K (Ban F ρ ad) H' (I.map ad) (fo r) → RetO own wd.dr X.K (fun a => H a = none) (Ban F ρ ad) H' v (fd r) → Q v H') fun _ _ => False) : BE X (.Call (.Name f p) (e :: es) [] pos) σ H Q := by
  obtain ⟨fa, fdd, ps, h1, h2, h3, h4⟩ := G.ok
  refine be (pe_call h4 (c.room.mono hj) (c.gl hg).1 h1 h2 h3 .nil c.ps pa_b (c.gl hg).2.1 he hpl) ?_
  have := hcs F ad σ H H _ (fun _ _ => False) [] s (Grow.refl _ _) .nil (fun _ _ z => z.elim) q
  refine fun pos pins s' I' => thn (this pos pins s' I') fun us s'' ⟨vs, H1, I2, rr, g1, as, ha, hw⟩ => ⟨vs, H1, I2, rr, ?_⟩
  have s1 := s.grow g1
  refine ⟨wd.dr, FX F ρ ad I, as, I.map ad, ?_, fun a l ea => ?_, nodup_ads s hI nd, ?_, ?_, ?_⟩
  · refine ⟨?_, s1.tb⟩
    rintro b (z | ⟨j, _, o, e⟩)
    · exact s1.fa b z
    · subst e; exact s1.there o
  · obtain ⟨fa, fl, ne, q⟩ := s1.dk a l ea
    exact ⟨.inl fa, .inl fl, ne, q⟩
  · intro a ha
    obtain ⟨i, hi, ei⟩ := List.mem_map.mp ha
    rintro (z | ⟨j, hj, o, e⟩)
    · exact s.nf i (hI i hi) (by rw [ei]; exact z)
    · have := s.inj j i o (hI i hi) (by rw [e, ei])
      subst this
      exact hj hi
  · rw [ban_eq hI, List.append_nil]
    rw [List.nil_append] at ha
    exact ha
  · rw [ban_eq hI]
    exact wp_mono (fun r z v H' g o rt => z v H' (GrowO.of g1 g) o (rt.mono fun a n hn => free_grow s g1 hn)) (fun _ _ z => z) hw
/-- a call as a value: nothing of the def's own is changed -/
theorem ev_callX [Calm wd] (c : Cw CX k wd N sc X) (W : NoW wd) {m : List Ar → R D} {M : R D} (G : Df X.prog X.w X.K X.mg X.base CX j f (spX X.K false id (fun _ => []) m)) (hj : j ≤ k) (hg : glB sc f = true) (hcs : CallS X wd ρ [] [] [] (e :: es) M m)
    (he : starEach (e :: es) X.env = (false, eval e X.env) :: starEach es X.env := by rfl) (hpl : (backTo pos (starEach es X.env)).any (·.1) = false := by rfl) : Ev X wd ρ (.Call (.Name f p) (e :: es) [] pos) M := fun F ad σ H Q s q =>
  call_read c W G hj hg (I := []) (by simp) List.nodup_nil hcs he hpl s (wp_mono (fun r z v H' g o rt => z v H' (GrowO.nil g) (rt.rep rfl)) (fun _ _ z => W.xp z) q)
section
variable {S S1 B T : Type} {eS : S → List Sl} {eS1 : S1 → List Sl} {eB : B → List Sl} {eT : T → List Sl} {rest A1 B1 : List Stmt}
/-- the slots behind a call -/
theorem step_call [Calm wd] (c : Cw CX k wd N sc X) (W : NoW wd) (G : Df X.prog X.w X.K X.mg X.base CX j f (spX X.K own fd fo m)) (hj : j ≤ k) (hg : glB sc f = true) (hI : ∀ i ∈ I, Own ρ i) (nd : I.Nodup) (hcs : CallS X wd ρ I [] [] (e :: es) M m)
    (he : starEach (e :: es) X.env = (false, eval e X.env) :: starEach es X.env) (hpl : (backTo pos (starEach es X.env)).any (·.1) = false) {F : Addr → Prop} {ad : Nat → Addr} {σ : L2.St} {H : Hp} {Dn : Ends} (s : StOk X.K wd.dr F ρ σ H ad) {Q : VK} {o : β → R (Out S B T)}
    (q : (M.bind o).wp (OutOk X wd eS eB eT F ρ ad H Dn) (XPs X wd F ρ ad H))
    (h : ∀ r v H', StOk X.K wd.dr F (setC ρ I (fo r)) σ H' ad → GrowO wd.dr (I.map ad) H H' → RetO own wd.dr X.K (fun a => H a = none) (Ban F ρ ad) H' v (fd r) → (o r).wp (OutOk X wd eS eB eT F (setC ρ I (fo r)) ad H' Dn) (XPs X wd F (setC ρ I (fo r)) ad H') → Q v H') : BE X (.Call (.Name f p) (e :: es) [] pos) σ H Q := by
  rw [wp_bind] at q
  refine call_read c W G hj hg hI nd hcs he hpl s (wp_mono (fun r q v H' g ou rt => ?_) (fun _ _ z => z.no W s) q)
  exact h r v H' (s.call hI nd g ou) g rt (wp_adv (.call s hI g) q)
theorem ban_setC {F : Addr → Prop} {ad : Nat → Addr} {cs : List Ct} (hI : ∀ i ∈ I, Own ρ i) {b : Addr} (h : Ban F (setC ρ I cs) ad b) : Ban F ρ ad b := h.imp id fun ⟨j, o, e⟩ => ⟨j, (own_setC hI j).mp o, e⟩
/-- f(..) alone -/
theorem run_callE [Calm wd] (c : Cd CX k wd N sc X) (W : NoW wd) (G : Df X.prog X.w X.K X.mg X.base CX j f (spX X.K own fd fo m)) (hj : j ≤ k) (hg : glB sc f = true) (hI : ∀ i ∈ I, Own ρ i) (nd : I.Nodup) (hcs : CallS X wd ρ I [] [] (e :: es) M m) {o : β → R (Out S B T)} (hr : ∀ r, Run X wd eS eB eT (setC ρ I (fo r)) rest (o r))
    (he : starEach (e :: es) X.env = (false, eval e X.env) :: starEach es X.env := by rfl) (hpl : (backTo pos (starEach es X.env)).any (·.1) = false := by rfl) (hs : swapsWith (.Call (.Name f p) (e :: es) [] pos) none py.line X.env = pure false := by rfl) : Run X wd eS eB eT ρ (.Expr (.Call (.Name f p) (e :: es) [] pos) py :: rest) (M.bind o) := fun F ad σ H Dn s q =>
  bss (pss_cons (ps_expr pe_b hs) pss_b) (step_call c.toCw W G hj hg hI nd hcs he hpl s q fun r v H' s' _ _ q => hr r F ad σ H' Dn s' q)
/-- x = f(..), data -/
theorem run_callS [Calm wd] (c : Cd CX k wd N sc X) (W : NoW wd) (G : Df X.prog X.w X.K X.mg X.base CX j f (spX X.K false fd fo m)) (hj : j ≤ k) (hg : glB sc f = true) (hI : ∀ i ∈ I, Own ρ i) (nd : I.Nodup) (hx : lcB sc x = true) (hN : N[i]? = some x) (hcs : CallS X wd ρ I [] [] (e :: es) M m) {o : β → R (Out S B T)} (hr : ∀ r, Run X wd eS eB eT ((setC ρ I (fo r)).set i (.d (fd r))) rest (o r))
    (he : starEach (e :: es) X.env = (false, eval e X.env) :: starEach es X.env := by rfl) (hpl : (backTo pos (starEach es X.env)).any (·.1) = false := by rfl) {px : Pos} (hs2 : swapsWith (.Call (.Name f p) (e :: es) [] pos) (some (.Name x px)) py.line X.env = pure false := by rfl) : Run X wd eS eB eT ρ (.Assign [.Name x px] (.Call (.Name f p) (e :: es) [] pos) py :: rest) (M.bind o) := fun F ad σ H Dn s q =>
  bss (pss_cons (ps_set c.nd' (c.at hN) (c.loc hx) pe_b hs2 (.inl (c.fn x))) pss_b) (step_call c.toCw W G hj hg hI nd hcs he hpl s q fun r v H' s' _ rt q =>
    hr r F ad (σ.set i (some v)) H' Dn (s'.set ((rt.rep rfl).weak fun b z => ban_setC hI z)) (wp_adv .set q))
/-- if f(..): .., the last of its block -/
theorem run_ifC1 [Calm wd] (c : Cd CX k wd N sc X) (W : NoW wd) (G : Df X.prog X.w X.K X.mg X.base CX j f (spX X.K false fd fo m)) (hj : j ≤ k) (hg : glB sc f = true) (hI : ∀ i ∈ I, Own ρ i) (nd : I.Nodup) (hcs : CallS X wd ρ I [] [] (e :: es) M m) {oa ob : β → R (Out S B T)}
    (hA : ∀ r, Run X wd eS eB eT (setC ρ I (fo r)) A1 (oa r)) (hB : ∀ r, Run X wd eS eB eT (setC ρ I (fo r)) B1 (ob r))
    (he : starEach (e :: es) X.env = (false, eval e X.env) :: starEach es X.env := by rfl) (hpl : (backTo pos (starEach es X.env)).any (·.1) = false := by rfl)
    (ht : ∀ whole, isTrue (.Call (.Name f p) (e :: es) [] pos) X.env whole = (do let v ← whole; standAt (Expr.pos (.Call (.Name f p) (e :: es) [] pos)); holding [v] (truthy v)) := by exact fun _ => rfl) :
    Run X wd eS eB eT ρ [.If (.Call (.Name f p) (e :: es) [] pos) A1 B1 py] (M.bind fun r => (boolR (fd r)).bind fun b => if b = true then oa r else ob r) := fun F ad σ H Dn s q => by
  refine bss (pss_one (ps_if (pt_val pe_b ht) pss_b pss_b)) ?_
  refine step_call c.toCw W G hj hg hI nd hcs he hpl s (o := fun r => (boolR (fd r)).bind fun b => if b = true then oa r else ob r) q fun r v H' s' _ rt q => ?_
  have rv := rt.rep rfl
  generalize hd : fd r = d at q rv
  cases d with
  | bool b =>
    refine ⟨b, RepB.bool (dr := none) (.inl rv), ?_⟩
    cases b with
    | true => exact iteT (hA r F ad σ H' Dn s' q)
    | false => exact iteF (hB r F ad σ H' Dn s' q)
  | _ => exact q.elim
theorem run_ifNC1 [Calm wd] (c : Cd CX k wd N sc X) (W : NoW wd) (G : Df X.prog X.w X.K X.mg X.base CX j f (spX X.K false fd fo m)) (hj : j ≤ k) (hg : glB sc f = true) (hI : ∀ i ∈ I, Own ρ i) (nd : I.Nodup) (hcs : CallS X wd ρ I [] [] (e :: es) M m) {oa ob : β → R (Out S B T)} {pn : Pos}
    (hA : ∀ r, Run X wd eS eB eT (setC ρ I (fo r)) A1 (oa r)) (hB : ∀ r, Run X wd eS eB eT (setC ρ I (fo r)) B1 (ob r))
    (he : starEach (e :: es) X.env = (false, eval e X.env) :: starEach es X.env := by rfl) (hpl : (backTo pos (starEach es X.env)).any (·.1) = false := by rfl)
    (ht : ∀ whole, isTrue (.Call (.Name f p) (e :: es) [] pos) X.env whole = (do let v ← whole; standAt (Expr.pos (.Call (.Name f p) (e :: es) [] pos)); holding [v] (truthy v)) := by exact fun _ => rfl) :
    Run X wd eS eB eT ρ [.If (.UnaryOp .Not (.Call (.Name f p) (e :: es) [] pos) pn) A1 B1 py] (M.bind fun r => (boolR (fd r)).bind fun b => if (!b) = true then oa r else ob r) := fun F ad σ H Dn s q => by
  refine bss (pss_one (ps_if (pt_not (pt_val pe_b ht)) pss_b pss_b)) ?_
  refine step_call c.toCw W G hj hg hI nd hcs he hpl s (o := fun r => (boolR (fd r)).bind fun b => if (!b) = true then oa r else ob r) q fun r v H' s' _ rt q => ?_
  have rv := rt.rep rfl
  generalize hd : fd r = d at q rv
  cases d with
  | bool b =>
    refine ⟨b, RepB.bool (dr := none) (.inl rv), ?_⟩
    cases b with
    | true => exact iteF (hB r F ad σ H' Dn s' q)
    | false => exact iteT (hA r F ad σ H' Dn s' q)
  | _ => exact q.elim
end
end
/-! ### defs with objects -/
def oIx : Nat → List Ar → List Nat
  | _, [] => []
  | n, .o _ :: as => n :: oIx (n + 1) as
  | n, _ :: as => oIx (n + 1) as
def adX (vs : List V) (i : Nat) : Addr := match vs[i]? with
  | some (.ref e) => e
  | _ => 0
def slotsX (N : List Str) (as : List Ar) : List Sl := as.map Ar.sl ++ List.replicate (N.length - as.length) .no
def wdX (dr : Drs) (ixs : List Nat) (own : Bool) : Wd := ⟨dr, fun _ _ _ => False, noE, fun i => ixs.contains i, own, true⟩
instance {dr : Drs} {ixs : List Nat} {own : Bool} : Calm (wdX dr ixs own) := ⟨rfl⟩
theorem noWX {dr : Drs} {ixs : List Nat} {own : Bool} : NoW (wdX dr ixs own) := ⟨rfl, fun _ => rfl⟩
section
variable {K : PySem.W.Frag} {dr : Drs} {F B : Addr → Prop} {H H' : Hp} {vs : List V} {as : List Ar} {os : List Addr} {N : List Str}
theorem oIx_ge : ∀ {as : List Ar} {n i : Nat}, i ∈ oIx n as → n ≤ i
  | [], n, i, h => by simp [oIx] at h
  | .o c :: as, n, i, h => by
    rcases List.mem_cons.mp h with rfl | h
    · exact Nat.le_refl _
    · exact Nat.le_of_succ_le (oIx_ge h)
  | .d x :: as, n, i, h => Nat.le_of_succ_le (oIx_ge (as := as) h)
  | .b x :: as, n, i, h => Nat.le_of_succ_le (oIx_ge (as := as) h)
  | .w :: as, n, i, h => Nat.le_of_succ_le (oIx_ge (as := as) h)
theorem oIx_at : ∀ {as : List Ar} {n i : Nat}, i ∈ oIx n as ↔ n ≤ i ∧ ∃ c, as[i - n]? = some (.o c)
  | [], n, i => by simp [oIx]
  | a :: as, n, i => by
    have ih := oIx_at (as := as) (n := n + 1) (i := i)
    have key : (n + 1 ≤ i ∧ ∃ c, as[i - (n + 1)]? = some (Ar.o c)) ↔ (n ≤ i ∧ i ≠ n ∧ ∃ c, (a :: as)[i - n]? = some (Ar.o c)) := by
      constructor
      · rintro ⟨h, c, e⟩
        refine ⟨by omega, by omega, c, ?_⟩
        rw [show i - n = (i - (n + 1)) + 1 by omega]
        simpa using e
      · rintro ⟨h, h2, c, e⟩
        refine ⟨by omega, c, ?_⟩
        rw [show i - n = (i - (n + 1)) + 1 by omega] at e
        simpa using e
    cases a with
    | o c =>
      unfold oIx
      rw [List.mem_cons, ih, key]
      constructor
      · rintro (rfl | ⟨h, _, z⟩)
        · exact ⟨Nat.le_refl _, c, by simp⟩
        · exact ⟨h, z⟩
      · rintro ⟨h, z⟩
        by_cases e : i = n
        · exact .inl e
        · exact .inr ⟨h, e, z⟩
    | _ =>
      unfold oIx
      rw [ih, key]
      constructor
      · rintro ⟨h, _, z⟩; exact ⟨h, z⟩
      · rintro ⟨h, c, z⟩
        refine ⟨h, fun e => ?_, c, z⟩
        rw [e, Nat.sub_self] at z
        simp at z
theorem ArsOk.os_eq (h : ArsOk K dr F B H vs as os) : ∀ n, os = (oIx n as).map fun i => adX vs (i - n) := by
  have sh : ∀ {v : V} {vs : List V} {as : List Ar} (n : Nat), (oIx (n + 1) as).map (fun i => adX vs (i - (n + 1))) = (oIx (n + 1) as).map fun i => adX (v :: vs) (i - n) := fun {v vs as} n => by
    apply List.map_congr_left
    intro i hi
    have := oIx_ge hi
    show adX vs (i - (n + 1)) = adX (v :: vs) (i - n)
    unfold adX
    rw [show i - n = (i - (n + 1)) + 1 by omega, List.getElem?_cons_succ]
  induction h with
  | nil => intro n; rfl
  | d _ _ ih => intro n; rw [ih (n + 1), sh n]; rfl
  | b _ _ _ _ ih => intro n; rw [ih (n + 1), sh n]; rfl
  | @o e c vs as os _ _ _ ih =>
    intro n
    unfold oIx
    rw [List.map_cons, ← sh n, ← ih (n + 1)]
    congr 1
    unfold adX
    rw [Nat.sub_self]
    rfl
  | w _ _ ih => intro n; rw [ih (n + 1), sh n]; rfl
/-- an argument by its place -/
theorem ArsOk.at (h : ArsOk K dr F B H vs as os) : ∀ {i : Nat} {a : Ar}, as[i]? = some a → ∃ v, vs[i]? = some v ∧ match a with
    | .d x => Rep K B H v x
    | .b c => ∃ e, v = .ref e ∧ F e ∧ ¬ Has dr e ∧ HasCt K B H e c
    | .o c => ∃ e, v = .ref e ∧ ¬ Has dr e ∧ HasCt K B H e c
    | .w => ∃ e l, v = .ref e ∧ dr = some (e, l) := by
  induction h with
  | nil => intro i a e; simp at e
  | d r _ ih =>
    intro i a e
    cases i with
    | zero => simp at e; subst e; exact ⟨_, rfl, r⟩
    | succ i => exact ih (by simpa using e)
  | b f n c _ ih =>
    intro i a e
    cases i with
    | zero => simp at e; subst e; exact ⟨_, rfl, _, rfl, f, n, c⟩
    | succ i => exact ih (by simpa using e)
  | o n c _ ih =>
    intro i a e
    cases i with
    | zero => simp at e; subst e; exact ⟨_, rfl, _, rfl, n, c⟩
    | succ i => exact ih (by simpa using e)
  | w f _ ih =>
    intro i a e
    cases i with
    | zero => simp at e; subst e; exact ⟨_, rfl, _, _, rfl, f⟩
    | succ i => exact ih (by simpa using e)
theorem slotsX_at {i : Nat} {s : Sl} (h : (slotsX N as)[i]? = some s) : s = .no ∨ ∃ a, as[i]? = some a ∧ s = a.sl := by
  unfold slotsX at h
  by_cases hi : i < as.length
  · rw [List.getElem?_append_left (by simpa using hi), List.getElem?_map] at h
    obtain ⟨a, ea, rfl⟩ := Option.map_eq_some_iff.mp h
    exact .inr ⟨a, ea, rfl⟩
  · rw [List.getElem?_append_right (by simpa using hi), List.getElem?_replicate] at h
    split at h
    · cases h; exact .inl rfl
    · cases h
theorem slotsX_own {i : Nat} (h : Own (slotsX N as) i) : i ∈ oIx 0 as := by
  obtain ⟨s, e, q⟩ := h
  rcases slotsX_at e with rfl | ⟨a, ea, rfl⟩
  · cases q
  · cases a with
    | o c => exact oIx_at.mpr ⟨Nat.zero_le _, c, by simpa using ea⟩
    | _ => cases q
theorem startX_ok (h : ArsOk K dr F (fun b => F b ∨ b ∈ os) H vs as os) (nb : Fo K H F) (hdr : ∀ a l, dr = some (a, l) → F a ∧ F l ∧ l ≠ a ∧ DrAt H a l) (nd : os.Nodup) (nf : ∀ a ∈ os, ¬ F a) (hl : as.length ≤ N.length) :
    StOk K dr F (slotsX N as) (L2.start N vs) H (adX vs) := by
  have eos := h.os_eq 0
  simp only [Nat.sub_zero] at eos
  have mem : ∀ {i}, Own (slotsX N as) i → adX vs i ∈ os := fun {i} o => by
    rw [eos]
    exact List.mem_map.mpr ⟨i, slotsX_own o, rfl⟩
  have ban : ∀ b, Ban F (slotsX N as) (adX vs) b → F b ∨ b ∈ os := by
    rintro b (z | ⟨i, o, rfl⟩)
    · exact .inl z
    · exact .inr (mem o)
  have hvl := h.length
  refine ⟨?_, fun i j oi oj e => ?_, fun i o => nf _ (mem o), nb.b, hdr, nb.t, fun i s e => ?_⟩
  · unfold L2.start slotsX
    simp only [List.length_append, List.length_map, List.length_replicate]
    omega
  · have hi := slotsX_own oi
    have hj := slotsX_own oj
    rw [eos] at nd
    have key : ∀ (l : List Nat), (l.map (adX vs)).Nodup → i ∈ l → j ∈ l → i = j := by
      intro l
      induction l with
      | nil => simp
      | cons a l ih =>
        intro nd hi hj
        rw [List.map_cons, List.nodup_cons] at nd
        rcases List.mem_cons.mp hi with hi1 | hi1 <;> rcases List.mem_cons.mp hj with hj1 | hj1
        · rw [hi1, hj1]
        · exact absurd (List.mem_map.mpr ⟨j, hj1, by rw [← e, hi1]⟩) nd.1
        · exact absurd (List.mem_map.mpr ⟨i, hi1, by rw [e, hj1]⟩) nd.1
        · exact ih nd.2 hi1 hj1
    exact key _ nd hi hj
  · rcases slotsX_at e with rfl | ⟨a, ea, rfl⟩
    · trivial
    · obtain ⟨v, ev, hv⟩ := h.at ea
      have hi : i < vs.length := (List.getElem?_eq_some_iff.mp ev).1
      have es : (L2.start N vs)[i]? = some (some v) := by
        unfold L2.start
        rw [List.getElem?_append_left (by rw [List.length_map]; exact hi), List.getElem?_map, ev]
        rfl
      cases a with
      | d x => exact ⟨v, es, hv.weak ban⟩
      | b c =>
        obtain ⟨e, rfl, h1, h2, h3⟩ := hv
        exact ⟨e, es, h1, h2, h3.mono (fun _ _ r => r.weak ban) (fun _ _ r => r.weak ban) fun _ q => q⟩
      | o c =>
        obtain ⟨e, rfl, h2, h3⟩ := hv
        have ae : adX vs i = e := by unfold adX; rw [ev]
        rw [ae]
        exact sl_ok es (h3.mono (fun _ _ r => r.weak ban) (fun _ _ r => r.weak ban) fun _ q => q)
      | w =>
        obtain ⟨e, l, rfl, h2⟩ := hv
        exact ⟨e, l, h2, es⟩
end
section
variable {P : Program} {w : World} {K : PySem.W.Frag} {mg : Str → Option Value} {base : Heap} {N ps : List Str} {x : Str} {st : Stmt} {k : Nat}
/-- a def that changes none of its objects -/
theorem df_ofB (A : At K mg x st ps) (S : FnScope N ps (defScope st)) {own : Bool} {m : List Ar → R D} {eN : Unit → List Sl} (sh : ∀ as, m as = bad ∨ (as.length = ps.length ∧ oIx 0 as = []))
    (hrun : ∀ (X : Cx) (dr : Drs), Cd CX0 k (wdX dr [] own) N (defScope st) X → X.prog = P → X.w = w → X.K = K → X.mg = mg → X.base = base → CodeX K x X → ∀ as, m as = bad ∨ ∃ o : R (Out Unit Empty Unit), m as = endR0 o ∧ Run X (wdX dr [] own) eN (fun e : Empty => e.elim) (fun _ : Unit => []) (slotsX N as) (defBody st) o) :
    Df P w K mg base CX0 (k + 1) x (spX K own id (fun _ => []) m) := by
  obtain ⟨f, fd, h1, h2, h3, F⟩ := A.ok
  refine ⟨f, fd, ps, h1, h2, h3, F.okT S (fun vs H Q E h => ?_) (fun cdv hcd A outer s H vs Q E hr h => ?_)⟩
  · obtain ⟨dr, F0, as, os, _, _, _, _, ha, q⟩ := h
    rcases sh as with z | z
    · rw [z] at q; exact q.elim
    · rw [ha.length]; exact z.1
  · obtain ⟨dr, F0, as, os, nb, hdr, nd, nf, ha, q⟩ := h
    rcases sh as with z | ⟨z1, z2⟩
    · rw [z] at q; exact q.elim
    have eos := ha.os_eq 0
    rw [z2] at eos
    simp only [List.map_nil] at eos
    subst eos
    refine ⟨_, pss_b, ?_⟩
    have hN : ps.length ≤ N.length := by have := congrArg List.length S.pre; rw [List.length_take] at this; omega
    have st0 := startX_ok (N := N) ha nb hdr nd nf (by omega)
    have no : ∀ {i}, ¬ Own (slotsX N as) i := fun {i} o => by have := slotsX_own o; rw [z2] at this; simp at this
    rcases hrun ((cxOf CX0 P w K mg base N x (defScope st) f cdv A outer s H E).nox) dr ⟨⟨rfl, rfl, S.nd, fun _ => rfl, un_of hr, fun _ => hr, PassesOwn.never, pass0⟩, fun _ => rfl, S.kind, rfl, rfl⟩ rfl rfl rfl rfl rfl hcd as with z | ⟨o, hm, run⟩
    · rw [z] at q; exact q.elim
    rw [hm] at q
    unfold endR0 at q
    rw [wp_bind] at q
    have gr : ∀ {ρ' : List Sl} {ad' : Nat → Addr} {H' : Hp}, Adv (wdX dr [] own) (slotsX N as) (adX vs) H ρ' ad' H' → GrowO dr [] H H' := fun {ρ' ad' H'} z => ⟨fun b o e n _ => (z.keep b o e n fun ⟨i, o, _⟩ => no o).1, z.draw⟩
    have rt : ∀ {H' : Hp} {ρ' : List Sl} {ad' : Nat → Addr} {v : V} {d : D}, RetO own dr K (fun a => OwnA (slotsX N as) (adX vs) a ∨ H a = none) (Ban F0 ρ' ad') H' v d → RetO own dr K (fun a => H a = none) (fun b => F0 b ∨ b ∈ ([] : List Addr)) H' v d := fun {H' ρ' ad' v d} r => by
      have key := r.mono (nw' := fun a => H a = none) fun a _ z => z.elim (fun ⟨i, o, _⟩ => absurd o no) id
      have e : (fun b => F0 b ∨ b ∈ ([] : List Addr)) = F0 := by funext b; simp
      rw [e]
      exact key.weak fun b z => .inl z
    refine run F0 (adX vs) _ H _ st0 (wp_mono (fun z q => ?_) (fun c x z => z.elim) q)
    cases z with
    | nx u => exact fun ad' σ' H' a s' => q _ H' (gr a) .nil (.inl .non)
    | bk b => exact b.elim
    | ct b => exact b.elim
    | rt d t => exact fun v ad' ρ' σ' H' a s' _ r => q v H' (gr a) .nil (rt r)
/-- how a def with in-out objects ends -/
def endX {τ : Type} (r : R (Out τ Empty τ)) : R (D × τ) := r.bind fun o => match o with
  | .nx t => ret (.none, t)
  | .rt d t => ret (d, t)
theorem outs_ok {K : PySem.W.Frag} {dr : Drs} {F : Addr → Prop} {ρ : List Sl} {σ : L2.St} {H : Hp} {ad ad0 : Nat → Addr} {eN : List Sl} (s : StOk K dr F ρ σ H ad) (hρ : ∀ (i : Nat) (s : Sl), eN[i]? = some s → s.own = true → ρ[i]? = some s) {B : Addr → Prop} (hB : ∀ b, B b → Ban F ρ ad b) :
    ∀ {ixs : List Nat} {cs : List Ct}, Paired (fun i c => eN[i]? = some c.sl) ixs cs → (∀ i ∈ ixs, ad i = ad0 i) → OutsOk K B H (ixs.map ad0) cs
  | _, _, .nil, _ => .nil
  | i :: ixs, c :: cs, .cons h t, ha => by
    rw [List.map_cons]
    refine .cons ?_ (outs_ok s hρ hB t fun j hj => ha j (List.mem_cons_of_mem _ hj))
    rw [← ha i List.mem_cons_self]
    exact (ok_sl (s.sl i _ (hρ i _ h (sl_own c)))).2.mono (fun _ _ r => r.weak hB) (fun _ _ r => r.weak hB) fun _ q => q
/-- a def that changes objects: the slots ixs -/
theorem df_ofX (A : At K mg x st ps) (S : FnScope N ps (defScope st)) {ixs : List Nat} {τ : Type} {eN : τ → List Sl} {fo : τ → List Ct} {m : List Ar → R (D × τ)} (sh : ∀ as, m as = bad ∨ (as.length = ps.length ∧ oIx 0 as = ixs)) (hfo : ∀ t, Paired (fun i c => (eN t)[i]? = some c.sl) ixs (fo t))
    (hrun : ∀ (X : Cx) (dr : Drs), Cd CX0 k (wdX dr ixs false) N (defScope st) X → X.prog = P → X.w = w → X.K = K → X.mg = mg → X.base = base → CodeX K x X → ∀ as, m as = bad ∨ ∃ o : R (Out τ Empty τ), m as = endX o ∧ Run X (wdX dr ixs false) eN (fun e : Empty => e.elim) eN (slotsX N as) (defBody st) o) :
    Df P w K mg base CX0 (k + 1) x (spX K false Prod.fst (fun r => fo r.2) m) := by
  obtain ⟨f, fd, h1, h2, h3, F⟩ := A.ok
  refine ⟨f, fd, ps, h1, h2, h3, F.okT S (fun vs H Q E h => ?_) (fun cdv hcd A outer s H vs Q E hr h => ?_)⟩
  · obtain ⟨dr, F0, as, os, _, _, _, _, ha, q⟩ := h
    rcases sh as with z | z
    · rw [z] at q; exact q.elim
    · rw [ha.length]; exact z.1
  · obtain ⟨dr, F0, as, os, nb, hdr, nd, nf, ha, q⟩ := h
    rcases sh as with z | ⟨z1, z2⟩
    · rw [z] at q; exact q.elim
    have eos := ha.os_eq 0
    rw [z2] at eos
    simp only [Nat.sub_zero] at eos
    refine ⟨_, pss_b, ?_⟩
    have hN : ps.length ≤ N.length := by have := congrArg List.length S.pre; rw [List.length_take] at this; omega
    have st0 := startX_ok (N := N) ha nb hdr nd nf (by omega)
    rcases hrun ((cxOf CX0 P w K mg base N x (defScope st) f cdv A outer s H E).nox) dr ⟨⟨rfl, rfl, S.nd, fun _ => rfl, un_of hr, fun _ => hr, PassesOwn.never, pass0⟩, fun _ => rfl, S.kind, rfl, rfl⟩ rfl rfl rfl rfl rfl hcd as with z | ⟨o, hm, run⟩
    · rw [z] at q; exact q.elim
    rw [hm] at q
    unfold endX at q
    rw [wp_bind] at q
    have gr : ∀ {ρ' : List Sl} {ad' : Nat → Addr} {H' : Hp}, Adv (wdX dr ixs false) (slotsX N as) (adX vs) H ρ' ad' H' → GrowO dr os H H' := fun {ρ' ad' H'} z => ⟨fun b o e n m => (z.keep b o e n fun ⟨i, o, ei⟩ => m (by
      rw [eos]
      have := slotsX_own o
      rw [z2] at this
      exact List.mem_map.mpr ⟨i, this, ei⟩)).1, z.draw⟩
    have pin : ∀ {ρ' : List Sl} {ad' : Nat → Addr} {H' : Hp}, Adv (wdX dr ixs false) (slotsX N as) (adX vs) H ρ' ad' H' → ∀ i ∈ ixs, ad' i = adX vs i := fun {ρ' ad' H'} z i hi => z.pin i (by simpa [wdX] using hi)
    have bn : ∀ {eN : List Sl} {cs : List Ct} {ρ' : List Sl} {ad' : Nat → Addr}, (∀ (i : Nat) (s : Sl), eN[i]? = some s → s.own = true → ρ'[i]? = some s) → Paired (fun i c => eN[i]? = some c.sl) ixs cs → (∀ i ∈ ixs, ad' i = adX vs i) → ∀ b, (F0 b ∨ b ∈ os) → Ban F0 ρ' ad' b := fun {eN cs ρ' ad'} hρ hp hpin b z => by
      rcases z with z | z
      · exact .inl z
      · rw [eos] at z
        obtain ⟨i, hi, ei⟩ := List.mem_map.mp z
        refine .inr ⟨i, ?_, by rw [hpin i hi]; exact ei⟩
        have : ∀ {ixs : List Nat} {cs : List Ct}, Paired (fun i c => eN[i]? = some c.sl) ixs cs → i ∈ ixs → ∃ c : Ct, eN[i]? = some c.sl := by
          intro ixs cs hp
          induction hp with
          | nil => intro h; simp at h
          | cons h _ ih =>
            intro hi
            rcases List.mem_cons.mp hi with rfl | hi
            · exact ⟨_, h⟩
            · exact ih hi
        obtain ⟨c, ec⟩ := this hp hi
        exact ⟨c.sl, hρ i _ ec (sl_own c), sl_own c⟩
    refine run F0 (adX vs) _ H _ st0 (wp_mono (fun z q => ?_) (fun c x z => z.elim) q)
    cases z with
    | nx t =>
      intro ad' σ' H' a s'
      refine q _ H' (gr a) ?_ (.inl .non)
      have := outs_ok s' (fun _ _ e _ => e) (bn (fun _ _ e _ => e) (hfo t) (pin a)) (hfo t) (pin a)
      rw [eos] at this ⊢
      exact this
    | bk b => exact b.elim
    | ct b => exact b.elim
    | rt d t =>
      intro v ad' ρ' σ' H' a s' hρ r
      refine q v H' (gr a) ?_ (.inl ((r.rep rfl).weak (bn hρ (hfo t) (pin a))))
      have := outs_ok s' hρ (bn hρ (hfo t) (pin a)) (hfo t) (pin a)
      rw [eos] at this ⊢
      exact this
end
end Pu
/-! Pso: sorted, any, in, over data. -/
namespace Pu
open PySem PySem.Spec PyProof.Rows L2 R
/-! ### in -/
def flatD : D → Bool
  | .none => true
  | .bool _ => true
  | .int _ => true
  | .str _ => true
  | _ => false
def eqF : D → D → Bool
  | .none, .none => true
  | .bool a, .bool b => a == b
  | .bool a, .int b => (if a then 1 else 0) == b
  | .int a, .bool b => a == (if b then 1 else 0)
  | .int a, .int b => a == b
  | .str a, .str b => a == b
  | _, _ => false
def inB (x : D) (ds : List D) : Bool := ds.any fun z => eqF z x
def inR (x y : D) : R D := match y with
  | .list ds => if (flatD x && ds.all flatD) = true then ret (.bool (inB x ds)) else if SeqAt.shaped x = true ∧ SeqAt.shaped (.list ds) = true then ret (.bool (ds.any fun z => PyData.eqv z x)) else bad
  | .tuple ds => if (flatD x && ds.all flatD) = true then ret (.bool (inB x ds)) else bad
  | .str z => (match x with
    | .str w => (match w.cps.toList with | [c] => ret (.bool (decide (c ∈ z.cps.toList))) | _ => bad)
    | _ => bad)
  | _ => bad
def ninR (x y : D) : R D := (inR x y).bind fun d => notR d
section
variable {K : PySem.W.Frag} {B : Addr → Prop} {H : Hp}
theorem flat_rep {v : V} {d : D} (h : Rep K B H v d) (f : flatD d = true) : flatV v = true := by
  cases d with
  | none => cases h; rfl
  | bool b => cases h; rfl
  | int b => cases h; rfl
  | str b => cases h; rfl
  | _ => cases f
theorem eqf_rep {v w : V} {d e : D} (h : Rep K B H v d) (h' : Rep K B H w e) (f : flatD d = true) (f' : flatD e = true) : eqV v w = eqF d e := by
  cases d with
  | none => cases h; cases e with
    | none => cases h'; rfl
    | bool b => cases h'; rfl
    | int b => cases h'; rfl
    | str b => cases h'; rfl
    | _ => cases f'
  | bool b => cases h; cases e with
    | none => cases h'; rfl
    | bool b => cases h'; rfl
    | int b => cases h'; rfl
    | str b => cases h'; rfl
    | _ => cases f'
  | int b => cases h; cases e with
    | none => cases h'; rfl
    | bool b => cases h'; rfl
    | int b => cases h'; rfl
    | str b => cases h'; rfl
    | _ => cases f'
  | str b => cases h; cases e with
    | none => cases h'; rfl
    | bool b => cases h'; rfl
    | int b => cases h'; rfl
    | str b => cases h'; rfl
    | _ => cases f'
  | _ => cases f
theorem flats_rep : ∀ {ds : List D} {vs : List V}, Reps K B H vs ds → ds.all flatD = true → vs.all flatV = true
  | [], _, h, _ => by cases h; rfl
  | d :: ds, _, h, f => by
    cases h with
    | cons a b =>
      rw [List.all_cons, Bool.and_eq_true] at f ⊢
      exact ⟨flat_rep a f.1, flats_rep b f.2⟩
theorem in_rep {x : V} {d : D} (h : Rep K B H x d) (f : flatD d = true) : ∀ {ds : List D} {vs : List V}, Reps K B H vs ds → ds.all flatD = true → inV x vs = inB d ds
  | [], _, r, _ => by cases r; rfl
  | e :: ds, _, r, fs => by
    cases r with
    | cons a b =>
      rw [List.all_cons, Bool.and_eq_true] at fs
      unfold inV inB
      rw [List.any_cons, List.any_cons, eqf_rep a h fs.1 f]
      congr 1
      exact in_rep h f b fs.2
end
def rInX (K : PySem.W.Frag) : R2 := fun x y H Q => rIn K false x y H Q ∨ rInD K x y H Q ∨ ∃ (c : Nat) (z : Str), x = .str ⟨#[c]⟩ ∧ y = .str z ∧ Q (.bl (decide (c ∈ z.cps.toList))) H
def rNInX (K : PySem.W.Frag) : R2 := fun x y H Q => rIn K true x y H Q ∨ rNotInD K x y H Q ∨ ∃ (c : Nat) (z : Str), x = .str ⟨#[c]⟩ ∧ y = .str z ∧ Q (.bl (!decide (c ∈ z.cps.toList))) H
theorem one_sign {w : Str} {c : Nat} (h : w.cps.toList = [c]) : w = ⟨#[c]⟩ := by
  obtain ⟨a⟩ := w
  have : a = #[c] := Array.toList_inj.mp (by simpa using h)
  rw [this]
/-- one of a text, a list, a tuple: with the test's answer turned or not -/
theorem in_core {K : PySem.W.Frag} {B : Addr → Prop} {H : Hp} {x y : V} {d e : D} {E : Nat → D → Prop} {Q : D → Prop} (hx : RepB K dr B H x d) (hy : RepB K dr B H y e) (q : (inR d e).wp Q E) :
    ∃ b : Bool, Q (.bool b) ∧ ((∃ p xs, y = .ref p ∧ (SqL K H p xs ∨ SqT K H p xs) ∧ flatV x = true ∧ xs.all flatV = true ∧ b = inV x xs) ∨ (∃ d ds, Dp K H x d ∧ Dp K H y (.list ds) ∧ SeqAt.shaped d = true ∧ SeqAt.shaped (.list ds) = true ∧ b = ds.any fun z => PyData.eqv z d) ∨
      ∃ (c : Nat) (z : Str), x = .str ⟨#[c]⟩ ∧ y = .str z ∧ b = decide (c ∈ z.cps.toList)) := by
  have fx : flatD d = true → Rep K B H x d := fun f => by
    rcases hx with h | ⟨a, vs, ds, _, rfl, _⟩
    · exact h
    · cases f
  cases e with
  | list ds =>
    unfold inR at q
    by_cases hf : (flatD d && ds.all flatD) = true
    · simp only [hf, if_true] at q
      rw [Bool.and_eq_true] at hf
      obtain ⟨a, vs, rfl, h1, r1⟩ := hy.list
      exact ⟨_, q, .inl ⟨a, vs, rfl, .inl (.inl h1), flat_rep (fx hf.1) hf.1, flats_rep r1 hf.2, (in_rep (fx hf.1) hf.1 r1 hf.2).symm⟩⟩
    · simp only [hf, if_false] at q
      obtain ⟨⟨h1, h2⟩, q⟩ := wp_ite (by simpa using q)
      exact ⟨_, q, .inr (.inl ⟨d, ds, hx.dp, hy.dp, h1, h2, rfl⟩)⟩
  | tuple ds =>
    obtain ⟨hf, q⟩ := wp_ite q
    rw [Bool.and_eq_true] at hf
    obtain ⟨a, vs, rfl, h1, r1⟩ := hy.tuple
    exact ⟨_, q, .inl ⟨a, vs, rfl, .inr h1.sq, flat_rep (fx hf.1) hf.1, flats_rep r1 hf.2, (in_rep (fx hf.1) hf.1 r1 hf.2).symm⟩⟩
  | str z =>
    cases d with
    | str w =>
      unfold inR at q
      simp only at q
      split at q
      · rename_i c hc
        rw [hx.str, hy.str, one_sign hc]
        exact ⟨_, q, .inr (.inr ⟨c, z, rfl, rfl, rfl⟩)⟩
      · exact q.elim
    | _ => exact q.elim
  | _ => exact q.elim
theorem opS_in {K : PySem.W.Frag} : OpS K (rInX K) inR := by
  intro B H x y d e Q E hb hx hy q
  obtain ⟨b, q, h⟩ := in_core hx hy q
  have q := q (.bl b) H (Same.refl _) (.bl _)
  rcases h with ⟨p, xs, h1, h2, h3, h4, rfl⟩ | ⟨d, ds, h1, h2, h3, h4, rfl⟩ | ⟨c, z, h1, h2, rfl⟩
  · exact .inl ⟨p, xs, h1, h2, h3, h4, q⟩
  · exact .inr (.inl ⟨d, ds, h1, h2, h3, h4, q⟩)
  · exact .inr (.inr ⟨c, z, h1, h2, q⟩)
theorem opS_nin {K : PySem.W.Frag} : OpS K (rNInX K) ninR := by
  intro B H x y d e Q E hb hx hy q
  unfold ninR at q
  rw [wp_bind] at q
  obtain ⟨b, q, h⟩ := in_core hx hy q
  have q := q (.bl (!b)) H (Same.refl _) (.bl _)
  rcases h with ⟨p, xs, h1, h2, h3, h4, rfl⟩ | ⟨d, ds, h1, h2, h3, h4, rfl⟩ | ⟨c, z, h1, h2, rfl⟩
  · exact .inl ⟨p, xs, h1, h2, h3, h4, q⟩
  · exact .inr (.inl ⟨d, ds, h1, h2, h3, h4, q⟩)
  · exact .inr (.inr ⟨c, z, h1, h2, q⟩)
/-- a tuple of flat values that the module holds -/
def dV : D → V
  | .none => .non
  | .bool b => .bl b
  | .int i => .int i
  | .str x => .str x
  | _ => .non
def GTup (K : PySem.W.Frag) (mg : Str → Option Value) (x : Str) (ds : List D) : Prop := ∃ a u, mg x = some u ∧ RelV (.ref a) u ∧ ds.all flatD = true ∧ ∀ H, SqT K H a (ds.map dV)
theorem rep_dV {K : PySem.W.Frag} {B : Addr → Prop} {H : Hp} : ∀ {ds : List D}, ds.all flatD = true → Reps K B H (ds.map dV) ds
  | [], _ => .nil
  | d :: ds, h => by
    rw [List.all_cons, Bool.and_eq_true] at h
    refine .cons ?_ (rep_dV h.2)
    cases d with
    | none => exact .non
    | bool b => exact .bl b
    | int b => exact .int b
    | str b => exact .str b
    | _ => cases h.1
section
variable {CX : CXT} {k : Nat} {wd : Wd} {N : List Str} {sc : Scope} {X : Cx} {ρ : List Sl} {a b : Expr} {pos p : Pos} {ra rb : R D} {x y : Str} {py : Pos}
theorem ev_in (c : Cw CX k wd N sc X) (ha : EvB X wd ρ a ra) (hb : EvB X wd ρ b rb) (hm : behindInMarks .In b = false := by rfl) : Ev X wd ρ (.Compare a [.In] [b] pos) (ra.bind fun x => rb.bind fun y => inR x y) :=
  ev_cmp (OpR.or op_in_seq (OpR.or (op_inD (by have := c.un; omega)) op_in_sign)) opS_in hm ha hb
theorem ev_notin (c : Cw CX k wd N sc X) (ha : EvB X wd ρ a ra) (hb : EvB X wd ρ b rb) (hm : behindInMarks .NotIn b = false := by rfl) : Ev X wd ρ (.Compare a [.NotIn] [b] pos) (ra.bind fun x => rb.bind fun y => ninR x y) :=
  ev_cmp (OpR.or op_notIn_seq (OpR.or (op_notInD (by have := c.un; omega)) op_notIn_sign)) opS_nin hm ha hb
end
/-! ### any, all of data -/
def plainIB : D → Bool
  | .int _ => true
  | .bool _ => true
  | _ => false
def anyT (d : D) : R D := match d with
  | .list xs => if xs.all plainIB = true then ret (.bool (xs.any PyData.truthy)) else bad
  | .tuple xs => if xs.all plainIB = true then ret (.bool (xs.any PyData.truthy)) else bad
  | _ => bad
theorem plain_all : ∀ {xs : List D}, xs.all plainIB = true → PyData.plainAll xs = true ∧ ∀ x ∈ xs, x.fits63
  | [], _ => ⟨rfl, by simp⟩
  | x :: xs, h => by
    rw [List.all_cons, Bool.and_eq_true] at h
    obtain ⟨h1, h2⟩ := plain_all h.2
    cases x with
    | int i => exact ⟨by unfold PyData.plainAll; rw [h1]; rfl, fun y hy => by
        rcases List.mem_cons.mp hy with rfl | hy
        · trivial
        · exact h2 y hy⟩
    | bool i => exact ⟨by unfold PyData.plainAll; rw [h1]; rfl, fun y hy => by
        rcases List.mem_cons.mp hy with rfl | hy
        · trivial
        · exact h2 y hy⟩
    | _ => cases h.1
def rAnyT (K : PySem.W.Frag) : List V → Hp → VK → Prop := fun vs H Q => ∃ (a : Addr) (xs : List V) (ds : List D), vs = [V.ref a] ∧ (SqL K H a xs ∨ SqT K H a xs) ∧ DpAll K H xs ds ∧ ds.all plainIB = true ∧ Q (.bl (ds.any PyData.truthy)) H
theorem cr_anyT {X : Cx} (hc : X.calm = true) : CallR X (.builtin "any") (rAnyT X.K) := by
  intro pins s σ H vs us Q I r h
  obtain ⟨a, xs, ds, rfl, hs, hd, hp, q⟩ := h
  obtain ⟨u, rfl, ru⟩ := vals1 r
  obtain rfl : u = Value.ref a := ru
  obtain ⟨p1, p2⟩ := plain_all hp
  rcases hs with hs | hs
  · obtain ⟨its, rv, hl, _⟩ := I.list hs
    obtain ⟨as, ra⟩ := Dp.readsAll I ds xs its hd rv
    exact PySem.W.any_list_data (I.ok.hd hc) hl.isList (by simpa using ra) p1 p2 fun h' tk kp => ⟨.bl _, H, I.kept kp, rfl, q⟩
  · obtain ⟨its, rv, hl, _⟩ := I.tuple hs
    obtain ⟨as, ra⟩ := Dp.readsAll I ds xs its hd rv
    exact PySem.W.any_tuple_data (I.ok.hd hc) hl (by simpa using ra) p1 p2 fun h' tk kp => ⟨.bl _, H, I.kept kp, rfl, q⟩
theorem calS_anyT {K : PySem.W.Frag} : CalS K (rAnyT K) anyT := by
  intro B H x d Q E nb r q
  cases d with
  | list ds =>
    obtain ⟨a, vs, rfl, e, rr⟩ := r.list
    obtain ⟨hp, q⟩ := wp_ite q
    exact ⟨a, vs, ds, rfl, .inl (.inl e), rr.dp, hp, q _ _ (Same.refl _) (.bl _)⟩
  | tuple ds =>
    obtain ⟨a, vs, rfl, e, rr⟩ := r.tuple
    obtain ⟨hp, q⟩ := wp_ite q
    exact ⟨a, vs, ds, rfl, .inr e.sq, rr.dp, hp, q _ _ (Same.refl _) (.bl _)⟩
  | _ => exact q.elim
/-! ### sorted -/
def isTup1 : D → Bool
  | .tuple (_ :: _) => true
  | _ => false
def notNT : D → Bool
  | .none => false
  | .tuple _ => false
  | _ => true
def srtOk (ds : List D) : Bool := (ds.all fun d => ds.all fun e => PySem.W.alike d e) && (ds.all isTup1 || ds.all notNT) && ds.all fun d => decide (d.depth ≤ 60)
def srtD (ds : List D) : List D := ds.mergeSort (PySem.W.dataLe false id)
def sortL (ds : List D) : R (List D) := if srtOk ds = true ∧ ds.length ≤ sizeLine then ret (srtD ds) else bad
def sortedR (d : D) : R (List D) := match d with
  | .list ds => sortL ds
  | .tuple ds => bad
  | _ => bad
theorem srt_alike {ds : List D} (h : srtOk ds = true) : PySem.W.AllAlike ds ∧ PySem.W.Sortable ds ∧ ∀ d ∈ ds, d.depth ≤ 60 := by
  unfold srtOk at h
  rw [Bool.and_eq_true, Bool.and_eq_true] at h
  obtain ⟨⟨h1, h2⟩, h3⟩ := h
  refine ⟨fun d hd e he => ?_, ?_, fun d hd => ?_⟩
  · rw [List.all_eq_true] at h1
    have := h1 d hd
    rw [List.all_eq_true] at this
    exact this e he
  · rw [Bool.or_eq_true] at h2
    rcases h2 with h2 | h2
    · refine .inl fun d hd => ?_
      have := (List.all_eq_true.mp h2) d hd
      unfold isTup1 at this
      split at this
      · exact ⟨_, _, rfl⟩
      · cases this
    · refine .inr fun d hd => ?_
      have := (List.all_eq_true.mp h2) d hd
      unfold notNT at this
      split at this
      · cases this
      · cases this
      · rename_i h4 h5
        exact ⟨fun e => h4 (by rw [e]), fun xs e => h5 xs (by rw [e])⟩
  · have := (List.all_eq_true.mp h3) d hd
    simpa using this
theorem each_of {α β : Type} {R : α → β → Prop} : ∀ {as : List α} {bs : List β}, Paired R as bs → PySem.W.EachIs R as bs
  | _, _, .nil => .nil
  | _, _, .cons h t => .cons h (each_of t)
theorem reads_each {h : Heap} : ∀ {us : List Value} {ds : List D} {as : List Addr}, ReadsAll h us ds as → PySem.W.EachIs (fun v b => ∃ as, Reads h v b as) us ds
  | _, _, _, .nil => .nil
  | _, _, _, .cons a b => .cons ⟨_, a⟩ (reads_each b)
theorem each_vals {K : PySem.W.Frag} {B : Addr → Prop} {H : Hp} : ∀ {us : List Value} {vs : List V} {ds : List D}, Reps K B H vs ds → Vals vs us → PySem.W.EachIs (fun u d => ∃ v, RelV v u ∧ Rep K B H v d) us ds
  | [], _, _, h, r => by cases r; cases h; exact .nil
  | u :: us, _, _, h, r => by
    cases r with
    | cons a b =>
      cases h with
      | cons c d => exact .cons ⟨_, a, c⟩ (each_vals d b)
theorem vals_each {K : PySem.W.Frag} {B : Addr → Prop} {H : Hp} : ∀ {us : List Value} {ds : List D}, PySem.W.EachIs (fun u d => ∃ v, RelV v u ∧ Rep K B H v d) us ds → ∃ vs, Vals vs us ∧ Reps K B H vs ds
  | _, _, .nil => ⟨[], .nil, .nil⟩
  | _, _, .cons ⟨v, a, b⟩ t => by
    obtain ⟨vs, h1, h2⟩ := vals_each t
    exact ⟨v :: vs, .cons a h1, .cons b h2⟩
def rSortL (K : PySem.W.Frag) : List V → Hp → VK → Prop := fun vs H Q => ∃ (a : Addr) (xs : List V) (ds : List D) (B : Addr → Prop), vs = [V.ref a] ∧ SqL K H a xs ∧ Reps K B H xs ds ∧ srtOk ds = true ∧ ds.length ≤ sizeLine ∧
  ∀ ys p, Reps K B H ys (srtD ds) → H p = none → Q (.ref p) (upd H p (.lst ys))
theorem cr_sortL {X : Cx} (hu : X.A.units + 64 < cLine) : CallR X (.builtin "sorted") (rSortL X.K) := by
  intro pins s σ H vs us Q I r h
  obtain ⟨a, xs, ds, B, rfl, hs, hr, ho, hz, q⟩ := h
  obtain ⟨u, rfl, ru⟩ := vals1 r
  obtain rfl : u = Value.ref a := ru
  obtain ⟨its, rv, hl, _⟩ := I.list hs
  obtain ⟨as, ra⟩ := Dp.readsAll I ds xs its hr.dp rv
  obtain ⟨h1, h2, h3⟩ := srt_alike ho
  refine PySem.W.sorted_data (enc := id) (R := fun u d => ∃ v, RelV v u ∧ Rep X.K B H v d) hl.isList (each_vals hr rv) (reads_each ra) (by rw [List.map_id]; exact h1) (by rw [List.map_id]; exact h2) hz (fun b hb => by have := h3 b hb; show X.A.units + 2 + b.depth < cLine; omega) fun out hl2 e => ?_
  obtain ⟨ys, hv, hy⟩ := vals_each e
  have hn : H (s.heap.objs.size + 1) = none := I.hok.fresh (Nat.le_succ _)
  obtain ⟨n, hn2⟩ := sortedAll_at s.heap its out.toArray
  refine ⟨.ref _, upd H (s.heap.objs.size + 1) (.lst ys), I.laid (t' := s.toks) (fun b o e => sortedAll_old e) (Nat.le_succ _) ⟨?_, out, n, hv, hn2⟩, rfl, q ys _ hy hn⟩
  rw [hy.length]
  rw [List.length_mergeSort]
  exact hz
/-! ### sorted(d): the keys -/
theorem key_reads {h : Heap} {k : Key} {u : Value} (r : RelV (kV k) u) : Reads h u (keyD k) [] := by
  cases k with
  | inl i =>
    obtain ⟨t, rfl⟩ := (show ∃ t, u = Value.int i t from r)
    exact .int i t
  | inr x =>
    obtain ⟨t, rfl⟩ := (show ∃ t, u = Value.str x t from r)
    exact .str x t
theorem keys_reads {h : Heap} : ∀ {ks : List Key} {us : List Value}, Vals (ks.map kV) us → ReadsAll h us (ks.map keyD) []
  | [], _, r => by cases r; exact .nil
  | k :: ks, _, r => by
    rw [List.map_cons] at r
    cases r with
    | cons a b => exact ReadsAll.cons (as := []) (bs := []) (key_reads a) (keys_reads b)
theorem each_pair {α β : Type} {R S : α → β → Prop} : ∀ {as : List α} {bs : List β}, PySem.W.EachIs R as bs → (∀ a b, R a b → S a b) → PySem.W.EachIs S as bs
  | _, _, .nil, _ => .nil
  | _, _, .cons a b, k => .cons (k _ _ a) (each_pair b k)
theorem sort_src {X : Cx} {pins : List (Addr × Obj)} {σ : L2.St} {H : Hp} {s : Shared} {a : Addr} {n : Nat} {P : Nat → Value → Prop} {OK : Heap → Prop} {ds : List D} {B : Addr → Prop} {Q : VK} (hu : X.A.units + 64 < cLine) (hc : X.calm = true) (I : Inv X pins σ H s)
    (src : PySem.W.KdlSrc X.prog X.w "dict" a a n P OK) (ok : OK s.heap) (hn : n ≤ sizeLine) (ho : srtOk ds = true) (hz : ds.length ≤ sizeLine)
    (hi : ∀ (h' : Heap) (tk : Nat) (acc : Array Value), (∀ b o, s.heap.get? b = some o → h'.get? b = some o) → ItemsOf P acc n → PySem.W.EachIs (fun u d => (∃ v, RelV v u ∧ Rep X.K B H v d) ∧ ∀ h2, (∀ b o, s.heap.get? b = some o → h2.get? b = some o) → Reads h2 u d []) acc.toList ds)
    (q : ∀ ys p, Reps X.K B H ys (srtD ds) → H p = none → Q (.ref p) (upd H p (.lst ys))) : wpAny (model X.prog X.w) X.A (call (.builtin "sorted") [.ref a]) (EP X pins σ Q) X.xe s := by
  obtain ⟨h1, h2, h3⟩ := srt_alike ho
  refine Calls.call_function_entry PyProof.Rows.kind_sorted PyProof.Rows.plain_sorted PyProof.Rows.entry_sorted (PyProof.Rows.args_sorted1 _) ?_
  unfold Builtin.«sorted»
  refine wpAny_bind (m := checkCount "sorted" 1 1 _) (wpAny_pure ?_)
  refine wpAny_bind (PySem.W.kdu_collect (A := X.A.in1) src (I.ok.hd hc) ok hn fun h' tk acc hk hacc => ?_)
  have each := hi h' tk acc hk hacc
  have I1 : Inv X pins σ H { s with heap := h', toks := tk } := I.kept hk
  have hl : acc.toList.length = ds.length := each.length
  refine wpAny_bind (wpAny_newList ?_ (by rw [hl]; exact hz))
  generalize hp : h'.objs.size = p at I1
  have hoL : (h'.push (seqObj "list" acc.toList.toArray 0)).get? p = some (seqObj "list" acc.toList.toArray 0) := by rw [← hp]; exact Heap.get?_push_size _ rfl
  have hnp : H p = none := I1.hok.fresh (Nat.le_of_eq hp)
  have old : ∀ b o, h'.get? b = some o → (h'.push (seqObj "list" acc.toList.toArray 0)).get? b = some o := fun b o e => Heap.get?_push_of_some _ e
  refine wpAny_bind (wpAny_holding (PySem.W.list_sort_data (s := { s with heap := h'.push (seqObj "list" acc.toList.toArray 0), toks := tk }) (enc := id) (R := fun u d => ∃ v, RelV v u ∧ Rep X.K B H v d) hoL (each_pair each fun _ _ z => z.1)
    (each_pair each fun _ _ z => ⟨[], z.2 _ fun b o e => old b o (hk b o e), by simp⟩) (by rw [List.map_id]; exact h1) (by rw [List.map_id]; exact h2) hz (fun b hb => by have := h3 b hb; show X.A.in1.units + 1 + b.depth < cLine; have : X.A.in1.units = X.A.units + 1 := rfl; omega) fun out hl2 e => ?_))
  obtain ⟨ys, hv, hy⟩ := vals_each e
  obtain ⟨m, he⟩ := PyProof.Rows.sortedHeap_at (vs := acc.toList) (out := out.toArray) hoL
  refine wpAny_pure ⟨_, rfl, .ref p, upd H p (.lst ys), I1.laid (t' := tk) (fun b o eb => ?_) (Nat.le_of_eq hp) ⟨by rw [hy.length, List.length_mergeSort]; exact hz, out, m, hv, he⟩, rfl, q ys p hy hnp⟩
  have hb : b < h'.objs.size := Heap.lt_size eb
  rw [PyProof.Rows.sortedHeap_old (by rw [← hp]; exact Nat.ne_of_lt hb) (by show b < (h'.push _).objs.size; rw [Heap.size_push]; exact Nat.lt_succ_of_lt hb)]
  exact old b o eb
/-- what sorted(..) sorts -/
def ctKeys : Ct → List D
  | .l xs => xs
  | .k kvs => kvs.map fun p => keyD p.1
  | .t kvs => kvs.map fun p => .tuple (p.1.map keyD)
theorem keyD_rep {K : PySem.W.Frag} {B : Addr → Prop} {H : Hp} (k : Key) : Rep K B H (kV k) (keyD k) := by
  cases k with
  | inl i => exact .int i
  | inr x => exact .str x
theorem keysD_rep {K : PySem.W.Frag} {B : Addr → Prop} {H : Hp} : ∀ ks : List Key, Reps K B H (ks.map kV) (ks.map keyD)
  | [] => .nil
  | k :: ks => .cons (keyD_rep k) (keysD_rep ks)
theorem paired_map {α β γ : Type} {G : α → β → Prop} {f : α → γ} {g : β → γ} (h : ∀ a b, G a b → f a = g b) : ∀ {as : List α} {bs : List β}, Paired G as bs → as.map f = bs.map g
  | _, _, .nil => rfl
  | _, _, .cons x t => by rw [List.map_cons, List.map_cons, h _ _ x, paired_map h t]
theorem paired_get {α β : Type} {G : α → β → Prop} : ∀ {as : List α} {bs : List β} {j : Nat} {b : β}, Paired G as bs → bs[j]? = some b → ∃ a, as[j]? = some a ∧ G a b
  | _, _, _, _, .nil, e => by simp at e
  | _, _, 0, _, .cons x t, e => by simp at e; subst e; exact ⟨_, rfl, x⟩
  | _, _, j + 1, _, .cons x t, e => by
    obtain ⟨a, h1, h2⟩ := paired_get (j := j) t (by simpa using e)
    exact ⟨a, by simpa using h1, h2⟩
/-- by places -/
theorem each_at {α β : Type} {R : α → β → Prop} : ∀ {as : List α} {bs : List β}, as.length = bs.length → (∀ (j : Nat) (a : α) (b : β), as[j]? = some a → bs[j]? = some b → R a b) → PySem.W.EachIs R as bs
  | [], [], _, _ => .nil
  | [], _ :: _, h, _ => by simp at h
  | _ :: _, [], h, _ => by simp at h
  | a :: as, b :: bs, h, k => .cons (k 0 a b rfl rfl) (each_at (by simpa using h) fun j a' b' e1 e2 => k (j + 1) a' b' (by simpa using e1) (by simpa using e2))
def rSortC (K : PySem.W.Frag) : List V → Hp → VK → Prop := fun vs H Q => ∃ (a : Addr) (c : Ct) (B : Addr → Prop), vs = [V.ref a] ∧ HasCt K B H a c ∧ (∀ b, B b → Bd H b) ∧ srtOk (ctKeys c) = true ∧ (ctKeys c).length ≤ sizeLine ∧
  ∀ ys p, Reps K B H ys (srtD (ctKeys c)) → H p = none → Q (.ref p) (upd H p (.lst ys))
theorem cr_sortC {X : Cx} (hu : X.A.units + 64 < cLine) (hc : X.calm = true) : CallR X (.builtin "sorted") (rSortC X.K) := by
  intro pins s σ H vs us Q I r h
  obtain ⟨a, c, B, rfl, hct, nb, ho, hz, q⟩ := h
  obtain ⟨u, rfl, ru⟩ := vals1 r
  obtain rfl : u = Value.ref a := ru
  cases c with
  | l xs =>
    obtain ⟨vs, e, rr⟩ := hct
    exact cr_sortL hu pins s σ H _ _ Q I r ⟨a, vs, xs, B, rfl, .inl (.inl e), rr, ho, hz, q⟩
  | k kvs =>
    obtain ⟨ws, e, pr⟩ := hct
    obtain ⟨z, lo, vs, rel, dd⟩ := dk_of I.hok e
    obtain ⟨ep, hat⟩ := dd.dictAt
    have hks : vs.map (·.1) = kvs.map (·.1) := by rw [← rel.keys]; exact paired_map (fun _ _ z => z.1) pr
    have hl : vs.length = kvs.length := by have := congrArg List.length hks; simpa using this
    refine sort_src (ds := ctKeys (.k kvs)) hu hc I (PySem.W.kdl_dict (knd := mixKind X.prog X.w) (kvs := vs) (ep := ep) lo) hat (by rw [hl, ← paired_length pr]; exact z) ho hz (fun h' tk acc hk hacc => ?_) q
    refine each_at (by rw [Array.length_toList, hacc.1, hl]; unfold ctKeys; rw [List.length_map]) fun j u d e1 e2 => ?_
    obtain ⟨k, x, e3, e4⟩ := hacc.2 j u (by rw [← Array.getElem?_toList]; exact e1)
    have e5 : (kvs.map (·.1))[j]? = some k := by rw [← hks, List.getElem?_map, e3]; rfl
    have ed : d = keyD k := by
      unfold ctKeys at e2
      rw [List.getElem?_map] at e2 e5
      cases e6 : kvs[j]? with
      | none => rw [e6] at e2; cases e2
      | some p => rw [e6] at e2 e5; cases e2; cases e5; rfl
    subst ed
    have ru : RelV (kV k) u := by
      rcases keyIs_shape (show keyIs k u = true from e4) with ⟨i, t, rfl, rfl⟩ | ⟨i, t, rfl, rfl⟩ <;> exact ⟨t, rfl⟩
    exact ⟨⟨kV k, ru, keyD_rep k⟩, fun h2 _ => key_reads ru⟩
  | t kvs =>
    obtain ⟨ws, e, pr⟩ := hct
    obtain ⟨z, lo, ks, kt, o, es, ep, h1, h2, h3, h4, h5⟩ := (show ObjOk X.prog X.w H s.heap a (.dT ws) from I.hok a _ e)
    have l1 : es.size = ks.length := size_of_entries h4
    have l2 : ws.length = ks.length := Paired.length kt
    refine sort_src (ds := ctKeys (.t kvs)) hu hc I (kdl_raw lo h2 h3) h1 (by omega) ho hz (fun h' tk acc hk hacc => ?_) q
    refine each_at (by rw [Array.length_toList, hacc.1, l1, ← l2, paired_length pr]; unfold ctKeys; rw [List.length_map]) fun j u d e1 e2 => ?_
    obtain ⟨en, e3, e4⟩ := hacc.2 j u (by rw [← Array.getElem?_toList]; exact e1)
    have qe := entry_at h4 j
    rw [e3] at qe
    cases eb : ks[j]? with
    | none => rw [eb] at qe; cases qe
    | some b =>
      rw [eb] at qe
      have e6 : en = entryOfKey (tupleKind (mixKind X.prog X.w)) b := Option.some.inj qe
      have eu : u = .ref b.2.1 := by rw [e4, e6]; rfl
      obtain ⟨w, ew, hw1, hw2, _⟩ := paired_get kt eb
      have ed : d = .tuple (w.1.map keyD) := by
        unfold ctKeys at e2
        rw [List.getElem?_map] at e2
        cases e7 : kvs[j]? with
        | none => rw [e7] at e2; cases e2
        | some p =>
          rw [e7] at e2
          cases e2
          obtain ⟨w', ew', hw', _⟩ := paired_get pr e7
          rw [ew] at ew'
          cases ew'
          rw [hw']
      subst eu ed
      have hb : ¬ B b.2.1 := fun z => by
        obtain ⟨o', e', nt⟩ := nb _ z
        rw [hw2] at e'
        cases e'
        exact nt _ rfl
      refine ⟨⟨.ref b.2.1, rfl, .tup ⟨hw2, hb⟩ (keysD_rep w.1)⟩, fun h2 kp => ?_⟩
      obtain ⟨_, its, r2, ob, g1, g2, n, g3⟩ := (show ObjOk X.prog X.w H s.heap b.2.1 (.tup (w.1.map kV)) from I.hok _ _ hw2)
      exact Reads.tuple (kp _ _ g1) g2 g3 (by simpa using keys_reads r2)
section
variable {CX : CXT} {k : Nat} {wd : Wd} {N : List Str} {sc : Scope} {X : Cx} {ρ : List Sl} {a b : Expr} {pos p : Pos} {ra rb : R D} {x y : Str} {py : Pos} {i : Nat} {sl : Sl} {ct : Ct}
theorem bv_sorted : bootBuiltins "sorted" = some (.builtin "sorted") := by decide +kernel
/-- sorted(d), d an object of the def's own, or borrowed -/
theorem evl_sortedC [Calm wd] (c : Cw CX k wd N sc X) (Bt : Bt X.mg) (hg : glB sc "sorted" = true) (hv : visB sc x = true) (hN : N[i]? = some x) (hρ : ρ[i]? = some sl) (hc : sl.ct = some ct) : EvL X wd ρ (.Call (.Name "sorted" p) [.Name x py] [] pos) (sortL (ctKeys ct)) := fun F ad σ H Q s q => by
  obtain ⟨v1, v2, v3⟩ := c.vis hv
  refine be (pe_callB (cr_sortC c.u64 c.calm) (c.gl hg).1 Bt.sorted bv_sorted (pa_cons (pe_var (i := i) (by rw [c.hN]; exact hN) v1 v2 v3) pa_nil rfl) (c.gl hg).2.2 (c.gl hg).2.1 rfl rfl) ?_
  obtain ⟨a, e, h, _⟩ := ct_at s hρ hc
  obtain ⟨ho, q⟩ := wp_ite q
  refine ⟨_, e, a, ct, Ban F ρ ad, rfl, h, fun b z => s.banned z, ho.1, ho.2, fun ys p hy hp => q _ _ _ (Grow.same (same_upd hp)) hp upd_same ?_⟩
  refine (hy.ban fun b z => ?_).stay (same_stay (same_upd hp))
  rcases z with z | rfl
  · exact .inl z
  · exact .inr hp
/-- sorted(a), data -/
theorem evl_sorted (c : Cw CX k wd N sc X) (Bt : Bt X.mg) (hg : glB sc "sorted" = true) (ha : EvB X wd ρ a ra) (he : Plain X a := by exact fun _ => rfl) : EvL X wd ρ (.Call (.Name "sorted" p) [a] [] pos) (ra.bind fun x => sortedR x) := fun F ad σ H Q s q => by
  refine be (pe_callB (cr_sortL c.u64) (c.gl hg).1 Bt.sorted bv_sorted (pa_cons pe_b pa_nil (he [])) (c.gl hg).2.2 (c.gl hg).2.1 (he []) rfl) ?_
  rw [wp_bind] at q
  refine ha F ad σ H _ s (wp_mono (fun d q v H1 g1 r1 => ?_) (fun _ _ z => z) q)
  cases d with
  | list ds =>
    obtain ⟨a, vs, rfl, h1, rr⟩ := r1.list
    obtain ⟨ho, q⟩ := wp_ite q
    refine ⟨a, vs, ds, Ban F ρ ad, rfl, .inl h1, rr, ho.1, ho.2, fun ys p hy hp => q _ _ _ (g1.trans (Grow.same (same_upd hp))) (free_grow s g1 hp) upd_same ?_⟩
    refine (hy.ban fun b z => ?_).stay (same_stay (same_upd hp))
    rcases z with z | rfl
    · exact .inl z
    · exact .inr hp
  | _ => exact q.elim
/-- any(a), data -/
theorem ev_anyT [Calm wd] (c : Cw CX k wd N sc X) (B : Bt X.mg) (hg : glB sc "any" = true) (ha : EvB X wd ρ a ra) (he : Plain X a := by exact fun _ => rfl) : Ev X wd ρ (.Call (.Name "any" p) [a] [] pos) (ra.bind fun x => anyT x) := ev_b1 c (cr_anyT c.calm) calS_anyT hg B.any bv_any ha he
end
end Pu
/-! Prt: new objects handed back; more comprehensions; tuples of the module. -/
namespace Pu
open PySem PySem.Spec PyProof.Rows L2 R
def decK : D → Option (List (Key × D))
  | .dict kvs => allSome (fun p => (keyOf p.1).map fun k => (k, p.2)) kvs
  | _ => none
def decT : D → Option (List (List Key × D))
  | .dict ((.none, .none) :: kvs) => allSome (fun p => (keysOf p.1).map fun k => (k, p.2)) kvs
  | _ => none
theorem keyOf_keyD (k : Key) : keyOf (keyD k) = some k := by cases k <;> rfl
theorem allSome_map {α β γ : Type} {f : β → Option γ} {g : α → β} {h : α → γ} (e : ∀ a, f (g a) = some (h a)) : ∀ xs : List α, allSome f (xs.map g) = some (xs.map h)
  | [] => rfl
  | x :: xs => by rw [List.map_cons, List.map_cons]; unfold allSome; rw [e, allSome_map e xs]
theorem keysOf_map (ks : List Key) : keysOf (.tuple (ks.map keyD)) = some ks := by
  have := allSome_map (f := keyOf) (g := keyD) (h := id) keyOf_keyD ks
  rw [List.map_id] at this
  exact this
theorem decK_encK (kvs : List (Key × D)) : decK (encK kvs) = some kvs := by
  unfold decK encK
  have := allSome_map (f := fun p : D × D => (keyOf p.1).map fun k => (k, p.2)) (g := fun p : Key × D => (keyD p.1, p.2)) (h := id) (fun a => by simp [keyOf_keyD]) kvs
  rw [List.map_id] at this
  exact this
theorem decT_encT (kvs : List (List Key × D)) : decT (encT kvs) = some kvs := by
  unfold decT encT
  have := allSome_map (f := fun p : D × D => (keysOf p.1).map fun k => (k, p.2)) (g := fun p : List Key × D => (.tuple (p.1.map keyD), p.2)) (h := id) (fun a => by simp [keysOf_map]) kvs
  rw [List.map_id] at this
  exact this
theorem decK_enc {c : Ct} {kvs : List (Key × D)} (h : decK (encC c) = some kvs) : c = .k kvs := by
  cases c with
  | l xs => cases h
  | k kvs' => rw [show encC (.k kvs') = encK kvs' from rfl, decK_encK] at h; cases h; rfl
  | t kvs' => cases h
theorem decT_enc {c : Ct} {kvs : List (List Key × D)} (h : decT (encC c) = some kvs) : c = .t kvs := by
  cases c with
  | l xs => cases h
  | k kvs' =>
    cases kvs' with
    | nil => cases h
    | cons p r =>
      obtain ⟨k, v⟩ := p
      cases k <;> cases h
  | t kvs' => rw [show encC (.t kvs') = encT kvs' from rfl, decT_encT] at h; cases h; rfl
def asK {α : Type} (d : D) (f : List (Key × D) → R α) : R α := match decK d with
  | some kvs => f kvs
  | none => bad
def asT {α : Type} (d : D) (f : List (List Key × D) → R α) : R α := match decT d with
  | some kvs => f kvs
  | none => bad
def asTN {α : Type} (d : D) (g : R α) (f : List (List Key × D) → R α) : R α := match d with
  | .none => g
  | _ => asT d f
def isDict : D → Bool
  | .dict _ => true
  | _ => false
/-- a tuple of data, a dict by tuples, a dict by ints and texts -/
def unpDTK {α : Type} (d : D) (f : D → List (List Key × D) → List (Key × D) → R α) : R α := match d with
  | .tuple [x, y, z] => if isDict x = true then bad else asT y fun kt => asK z fun kk => f x kt kk
  | _ => bad
section
variable {K : PySem.W.Frag} {dr : Drs} {nw B : Addr → Prop} {H : Hp} {v : V} {d : D} {own : Bool}
theorem dec_rep {c : Ct} (h : Rep K B H v (encC c)) : False := by
  cases c <;> exact RepB.nodict (dr := none) (.inl h)
theorem decK_is {kvs : List (Key × D)} (h : decK d = some kvs) : ∃ l, d = .dict l := by
  cases d with
  | dict l => exact ⟨l, rfl⟩
  | _ => cases h
theorem decT_is {kvs : List (List Key × D)} (h : decT d = some kvs) : ∃ l, d = .dict l := by
  cases d with
  | dict l => exact ⟨l, rfl⟩
  | _ => cases h
theorem ret_one (h : RetO own dr K nw B H v d) (hd : ∃ l, d = .dict l) : ∃ a c, v = .ref a ∧ d = encC c ∧ ¬ B a ∧ ¬ Has dr a ∧ nw a ∧ HasCt K (fun b => B b ∨ b = a) H a c := by
  obtain ⟨l, rfl⟩ := hd
  rcases h with h | ⟨_, as, h1, h2, h3⟩
  · exact (RepB.nodict (dr := none) (.inl h)).elim
  · generalize hx : PyData.dict l = x at h3
    cases h3 with
    | @one a c hc =>
      obtain ⟨n1, n2, n3⟩ := h2 a (by simp)
      exact ⟨a, c, rfl, rfl, n1, n2, n3, hc.weak fun b z => z.imp id (by simp)⟩
    | tup => cases hx
end
theorem setOwn_ban {F : Addr → Prop} {ρ : List Sl} {ad : Nat → Addr} {i : Nat} {a : Addr} {sl : Sl} {b : Addr} (h : Ban F (ρ.set i sl) (fun j => if j = i then a else ad j) b) : Ban F ρ ad b ∨ b = a := by
  rcases h with b | ⟨j, ⟨t, et, qt⟩, e⟩
  · exact .inl (.inl b)
  · by_cases hj : j = i
    · simp only [hj, if_true] at e; exact .inr e.symm
    · simp only [hj, if_false] at e
      rw [List.getElem?_set_ne (Ne.symm hj)] at et
      exact .inl (.inr ⟨j, ⟨t, et, qt⟩, e⟩)
theorem StOk.setC {K : PySem.W.Frag} {dr : Drs} {F : Addr → Prop} {ρ : List Sl} {σ : L2.St} {H H' : Hp} {ad : Nat → Addr} (s : StOk K dr F ρ σ H ad) (g : Grow dr H H') {i : Nat} {a : Addr} {c : Ct} (ha : H a = none) (hc : HasCt K (fun b => Ban F ρ ad b ∨ b = a) H' a c) :
    StOk K dr F (ρ.set i c.sl) (σ.set i (some (.ref a))) H' (fun j => if j = i then a else ad j) :=
  s.setOwn g ha (sl_own c) (sl_ok rfl (hc.weak fun b z => setOwn_ban z))
section
variable {CX : CXT} {k j : Nat} {wd : Wd} {N : List Str} {sc : Scope} {X : Cx} {ρ : List Sl} {es : List Expr} {e a b : Expr} {pos p py px pz pt spos : Pos} {f x y z : Str} {i l n : Nat} {m : List Ar → R D} {M : R D} {ra rb : R D}
variable {S S1 B T : Type} {eS : S → List Sl} {eS1 : S1 → List Sl} {eB : B → List Sl} {eT : T → List Sl} {rest A1 B1 : List Stmt}
/-- x = f(..), where f hands back a new dict -/
theorem run_callD [Calm wd] (c : Cd CX k wd N sc X) (W : NoW wd) (G : Df X.prog X.w X.K X.mg X.base CX j f (spX X.K true id (fun _ => []) m)) (hj : j ≤ k) (hg : glB sc f = true) (hx : lcB sc x = true) (hN : N[i]? = some x) (hi : wd.pin i = false) (hcs : CallS X wd ρ [] [] [] (e :: es) M m) {o : D → R (Out S B T)}
    (hno : ∀ d, (∃ l, d = .dict l) ∨ (d = .none ∧ Run X wd eS eB eT (ρ.set i (.d .none)) rest (o .none)) ∨ o d = bad) (hr : ∀ ct : Ct, o (encC ct) = bad ∨ Run X wd eS eB eT (ρ.set i ct.sl) rest (o (encC ct)))
    (he : starEach (e :: es) X.env = (false, eval e X.env) :: starEach es X.env) (hpl : (backTo pos (starEach es X.env)).any (·.1) = false) {px : Pos} (hs2 : swapsWith (.Call (.Name f p) (e :: es) [] pos) (some (.Name x px)) py.line X.env = pure false) :
    Run X wd eS eB eT ρ (.Assign [.Name x px] (.Call (.Name f p) (e :: es) [] pos) py :: rest) (M.bind o) := fun F ad σ H Dn s q => by
  refine bss (pss_cons (ps_set c.nd' (c.at hN) (c.loc hx) pe_b hs2 (.inl (c.fn x))) pss_b) ?_
  rw [wp_bind] at q
  refine call_read c.toCw W G hj hg (I := []) (by simp) List.nodup_nil hcs he hpl s (wp_mono (fun d q v H' g ou rt => ?_) (fun _ _ z => z.no W s) q)
  have g := GrowO.nil g
  rcases hno d with hd | ⟨rfl, hrn⟩ | hb
  · obtain ⟨a, ct, rfl, rfl, n1, n2, n3, hc⟩ := ret_one rt hd
    rcases hr ct with hb | hr
    · rw [hb] at q; exact q.elim
    · exact hr F _ _ H' Dn (s.setC g n3 hc) (wp_adv (.trans (.setOwn n3 hi) (.grow g)) q)
  · have rv : Rep X.K (Ban F ρ ad) H' v .none := by
      rcases rt with h | ⟨_, as, h1, h2, h3⟩
      · exact h
      · generalize hx : id PyData.none = x at h3
        cases h3 with
        | @one a c hc => cases c <;> cases hx
        | tup => cases hx
    exact hrn F ad _ H' Dn ((s.grow g).set rv) (wp_adv (.trans (.grow g) .set) q)
  · rw [hb] at q; exact q.elim
theorem run_callT [Calm wd] (c : Cd CX k wd N sc X) (W : NoW wd) (G : Df X.prog X.w X.K X.mg X.base CX j f (spX X.K true id (fun _ => []) m)) (hj : j ≤ k) (hg : glB sc f = true) (hx : lcB sc x = true) (hN : N[i]? = some x) (hi : wd.pin i = false) (hcs : CallS X wd ρ [] [] [] (e :: es) M m) {o : List (List Key × D) → R (Out S B T)} (hr : ∀ kvs, Run X wd eS eB eT (ρ.set i (.kt kvs)) rest (o kvs))
    (he : starEach (e :: es) X.env = (false, eval e X.env) :: starEach es X.env := by rfl) (hpl : (backTo pos (starEach es X.env)).any (·.1) = false := by rfl) {px : Pos} (hs2 : swapsWith (.Call (.Name f p) (e :: es) [] pos) (some (.Name x px)) py.line X.env = pure false := by rfl) :
    Run X wd eS eB eT ρ (.Assign [.Name x px] (.Call (.Name f p) (e :: es) [] pos) py :: rest) (M.bind fun d => asT d o) :=
  run_callD c W G hj hg hx hN hi hcs (o := fun d => asT d o) (fun d => by
    unfold asT
    cases hd : decT d with
    | none => exact .inr (.inr rfl)
    | some kvs => exact .inl (decT_is hd)) (fun ct => by
    unfold asT
    cases hd : decT (encC ct) with
    | none => exact .inl rfl
    | some kvs => rw [decT_enc hd]; exact .inr (hr kvs)) he hpl hs2
theorem run_callK [Calm wd] (c : Cd CX k wd N sc X) (W : NoW wd) (G : Df X.prog X.w X.K X.mg X.base CX j f (spX X.K true id (fun _ => []) m)) (hj : j ≤ k) (hg : glB sc f = true) (hx : lcB sc x = true) (hN : N[i]? = some x) (hi : wd.pin i = false) (hcs : CallS X wd ρ [] [] [] (e :: es) M m) {o : List (Key × D) → R (Out S B T)} (hr : ∀ kvs, Run X wd eS eB eT (ρ.set i (.k kvs)) rest (o kvs))
    (he : starEach (e :: es) X.env = (false, eval e X.env) :: starEach es X.env := by rfl) (hpl : (backTo pos (starEach es X.env)).any (·.1) = false := by rfl) {px : Pos} (hs2 : swapsWith (.Call (.Name f p) (e :: es) [] pos) (some (.Name x px)) py.line X.env = pure false := by rfl) :
    Run X wd eS eB eT ρ (.Assign [.Name x px] (.Call (.Name f p) (e :: es) [] pos) py :: rest) (M.bind fun d => asK d o) :=
  run_callD c W G hj hg hx hN hi hcs (o := fun d => asK d o) (fun d => by
    unfold asK
    cases hd : decK d with
    | none => exact .inr (.inr rfl)
    | some kvs => exact .inl (decK_is hd)) (fun ct => by
    unfold asK
    cases hd : decK (encC ct) with
    | none => exact .inl rfl
    | some kvs => rw [decK_enc hd]; exact .inr (hr kvs)) he hpl hs2
/-- None or a new dict -/
theorem run_callTN [Calm wd] (c : Cd CX k wd N sc X) (W : NoW wd) (G : Df X.prog X.w X.K X.mg X.base CX j f (spX X.K true id (fun _ => []) m)) (hj : j ≤ k) (hg : glB sc f = true) (hx : lcB sc x = true) (hN : N[i]? = some x) (hi : wd.pin i = false) (hcs : CallS X wd ρ [] [] [] (e :: es) M m) {o1 : R (Out S B T)} {o : List (List Key × D) → R (Out S B T)} (hr1 : Run X wd eS eB eT (ρ.set i (.d .none)) rest o1) (hr : ∀ kvs, Run X wd eS eB eT (ρ.set i (.kt kvs)) rest (o kvs))
    (he : starEach (e :: es) X.env = (false, eval e X.env) :: starEach es X.env := by rfl) (hpl : (backTo pos (starEach es X.env)).any (·.1) = false := by rfl) {px : Pos} (hs2 : swapsWith (.Call (.Name f p) (e :: es) [] pos) (some (.Name x px)) py.line X.env = pure false := by rfl) :
    Run X wd eS eB eT ρ (.Assign [.Name x px] (.Call (.Name f p) (e :: es) [] pos) py :: rest) (M.bind fun d => asTN d o1 o) :=
  run_callD c W G hj hg hx hN hi hcs (o := fun d => asTN d o1 o) (fun d => by
    cases d with
    | none => exact .inr (.inl ⟨rfl, hr1⟩)
    | dict l => exact .inl ⟨l, rfl⟩
    | _ => exact .inr (.inr rfl)) (fun ct => by
    have e : asTN (encC ct) o1 o = asT (encC ct) o := by cases ct <;> rfl
    rw [e]
    unfold asT
    cases hd : decT (encC ct) with
    | none => exact .inl rfl
    | some kvs => rw [decT_enc hd]; exact .inr (hr kvs)) he hpl hs2
/-- x, y, z = f(..): data, a dict by tuples, a dict by ints and texts -/
theorem run_callDTK [Calm wd] (c : Cd CX k wd N sc X) (W : NoW wd) (G : Df X.prog X.w X.K X.mg X.base CX j f (spX X.K true id (fun _ => []) m)) (hj : j ≤ k) (hg : glB sc f = true) (hx : lcB sc x = true) (hN : N[i]? = some x) (hi : wd.pin i = false) (hy : lcB sc y = true) (hN2 : N[l]? = some y) (hi2 : wd.pin l = false) (hz : lcB sc z = true) (hN3 : N[n]? = some z) (hi3 : wd.pin n = false) (d12 : l ≠ i) (d13 : n ≠ i) (d23 : n ≠ l)
    (hcs : CallS X wd ρ [] [] [] (e :: es) M m) {o : D → List (List Key × D) → List (Key × D) → R (Out S B T)} (hr : ∀ d kt kk, Run X wd eS eB eT (((ρ.set i (.d d)).set l (.kt kt)).set n (.k kk)) rest (o d kt kk))
    (he : starEach (e :: es) X.env = (false, eval e X.env) :: starEach es X.env := by rfl) (hpl : (backTo pos (starEach es X.env)).any (·.1) = false := by rfl) {kt : Nat}
    (hs : swapsWithSole [.Tuple [.Name x px, .Name y py, .Name z pz] kt pt] (.Call (.Name f p) (e :: es) [] pos) spos.line X.env = pure false := by rfl) (hw : swappedStores [.Tuple [.Name x px, .Name y py, .Name z pz] kt pt] (.Call (.Name f p) (e :: es) [] pos) X.env = pure none := by rfl) (h1 : (assignEach [.Tuple [.Name x px, .Name y py, .Name z pz] kt pt] X.env).map (·.2) = [assign (.Tuple [.Name x px, .Name y py, .Name z pz] kt pt) X.env] := by rfl) :
    Run X wd eS eB eT ρ (.Assign [.Tuple [.Name x px, .Name y py, .Name z pz] kt pt] (.Call (.Name f p) (e :: es) [] pos) spos :: rest) (M.bind fun d => unpDTK d o) := fun F ad σ H Dn s q => by
  refine bss (pss_cons (ps_asg pe_b (pg_tup (n := 3) c.calm (pgn_cons c hx hN (pgn_cons c hy hN2 (pgn_cons c hz hN3 pgn_nil)))) hs hw h1) pss_b) ?_
  rw [wp_bind] at q
  refine call_read c.toCw W G hj hg (I := []) (by simp) List.nodup_nil hcs he hpl s (wp_mono (fun d q0 v H' g0 ou rt0 => ?_) (fun _ _ z => z.no W s) q)
  have g := GrowO.nil g0
  have q : (unpDTK d o).wp (OutOk X wd eS eB eT F ρ ad H Dn) (XPs X wd F ρ ad H) := q0
  have rt : RetO true wd.dr X.K (fun a => H a = none) (Ban F ρ ad) H' v d := rt0
  clear q0 rt0 g0 ou
  rcases d with _ | _ | _ | _ | _ | xs | _
  all_goals (first | exact False.elim q | skip)
  rcases xs with _ | ⟨d1, _ | ⟨d2, _ | ⟨d3, _ | ⟨d4, xs⟩⟩⟩⟩
  all_goals (first | exact False.elim q | skip)
  · unfold unpDTK at q
    simp only at q
    by_cases hd : isDict d1 = true
    · rw [if_pos hd] at q; exact q.elim
    rw [if_neg hd] at q
    unfold asT asK at q
    cases e2 : decT d2 with
    | none => rw [e2] at q; exact q.elim
    | some kt =>
      cases e3 : decK d3 with
      | none => rw [e2, e3] at q; exact q.elim
      | some kk =>
        rw [e2, e3] at q
        simp only at q
        rcases rt with rt | ⟨_, as, n1, n2, n3⟩
        · obtain ⟨a, vs, _, _, rr⟩ := rt.tuple
          cases rr with
          | cons _ rr =>
            cases rr with
            | cons r2 _ =>
              obtain ⟨l, rfl⟩ := decT_is e2
              exact (RepB.nodict (dr := none) (.inl r2)).elim
        generalize hgen : PyData.tuple [d1, d2, d3] = dd at n3
        cases n3 with
        | one hc => rename_i c; cases c <;> cases hgen
        | @tup p vs ds as hp rl =>
          cases hgen
          cases rl with
          | @o a0 c0 vs0 _ as0 hc0 rl0 => cases c0 <;> exact absurd rfl hd
          | @d v1 _ vs1 _ _ r1 rl =>
            cases rl with
            | d r2 _ => obtain ⟨l, rfl⟩ := decT_is e2; exact (RepB.nodict (dr := none) (.inl r2)).elim
            | @o a c2 vs2 _ as1 hc2 rl =>
              cases rl with
              | d r2 _ => obtain ⟨l, rfl⟩ := decK_is e3; exact (RepB.nodict (dr := none) (.inl r2)).elim
              | @o b c3 vs3 _ as2 hc3 rl =>
                cases rl
                have ec2 := decT_enc e2
                have ec3 := decK_enc e3
                subst ec2 ec3
                have hab : a ≠ b := by
                  rw [List.nodup_cons] at n1
                  exact fun z => n1.1 (by rw [z]; simp)
                obtain ⟨na, _, fa⟩ := n2 a (by simp)
                obtain ⟨nb, _, fb⟩ := n2 b (by simp)
                -- the heap ahead of the second object
                have g1 : Grow wd.dr H (fun u => if u = b then none else H' u) := ⟨fun u o eu nu => by
                  have : u ≠ b := fun z => by rw [z, fb] at eu; cases eu
                  show (if u = b then none else H' u) = _
                  rw [if_neg this]
                  exact g.keep u o eu nu, fun a' l' ed da => by
                  have z1 : a' ≠ b := fun z => by obtain ⟨_, e, _⟩ := da.bd; rw [z, fb] at e; cases e
                  have z2 : l' ≠ b := fun z => by obtain ⟨_, e, _⟩ := da.bdl; rw [z, fb] at e; cases e
                  exact (g.draw a' l' ed da).imp (fun x ex => by show (if a' = b then none else H' a') = _; rw [if_neg z1]; exact ex) fun x ex => by show (if l' = b then none else H' l') = _; rw [if_neg z2]; exact ex⟩
                have g2 : Grow wd.dr (fun u => if u = b then none else H' u) H' := ⟨fun u o eu nu => by
                  have eu : (if u = b then none else H' u) = some o := eu
                  split at eu
                  · cases eu
                  · exact eu, fun a' l' ed da => by
                  have k : ∀ {u : Addr} {o : HO}, (if u = b then none else H' u) = some o → H' u = some o := fun {u o} eu => by
                    split at eu
                    · cases eu
                    · exact eu
                  exact da.imp (fun x ex => k ex) fun x ex => k ex⟩
                have st : Stay (fun u => Ban F ρ ad u ∨ u ∈ [a, b]) H' (fun u => if u = b then none else H' u) := fun u o eu nu => by
                  show (if u = b then none else H' u) = _
                  rw [if_neg fun z => nu (.inr (by simp [z]))]
                  exact eu
                have hc2' : HasCt X.K (fun u => Ban F ρ ad u ∨ u = a) (fun u => if u = b then none else H' u) a (.t kt) := (hc2.mono (fun _ _ r => r.stay st) (fun _ _ r => r.stay st) fun o eo => by
                  show (if a = b then none else H' a) = _
                  rw [if_neg hab]
                  exact eo).weak fun u z => z.imp id fun z => by simp [z]
                have r1' : Rep X.K (fun u => Ban F ρ ad u ∨ u ∈ [a, b]) (fun u => if u = b then none else H' u) v1 d1 := r1.stay st
                have s1 := s.setC (i := l) g1 fa hc2'
                have r1'' : Rep X.K (Ban F (ρ.set l (Ct.t kt).sl) fun j => if j = l then a else ad j) (fun u => if u = b then none else H' u) v1 d1 := r1'.weak fun u z => by
                  rcases setOwn_ban z with z | z
                  · exact .inl z
                  · exact .inr (by simp [z])
                have s2 := s1.set (i := i) r1''
                have hb1 : (fun u => if u = b then none else H' u) b = none := by show (if b = b then none else H' b) = _; rw [if_pos rfl]
                have s3 := s2.setC (i := n) (a := b) (c := .k kk) g2 hb1 (hc3.weak fun u z => by
                  rcases z with z | z
                  · rcases setOwn_ban (ban_set z) with z | z
                    · exact .inl z
                    · exact .inr (by simp [z])
                  · exact .inr (by simp [z]))
                have eρ : (((ρ.set l (Ct.t kt).sl).set i (.d d1)).set n (Ct.k kk).sl) = (((ρ.set i (.d d1)).set l (.kt kt)).set n (.k kk)) := by
                  rw [List.set_comm _ _ d12]
                  rfl
                rw [eρ] at s3
                have eσ : (((σ.set l (some (V.ref a))).set i (some v1)).set n (some (V.ref b))) = (((σ.set i (some v1)).set l (some (V.ref a))).set n (some (V.ref b))) := by rw [List.set_comm _ _ d12]
                rw [eσ] at s3
                have av : Adv wd ρ ad H (((ρ.set i (.d d1)).set l (.kt kt)).set n (.k kk)) (fun j => if j = n then b else if j = l then a else ad j) H' := by
                  rw [← eρ]
                  exact (Adv.setOwn fa hi2).trans ((Adv.grow g1).trans (Adv.set.trans ((Adv.setOwn (sl := (Ct.k kk).sl) hb1 hi3).trans (.grow g2))))
                refine ⟨p, _, rfl, .inl (.inl hp), rfl, v1, _, rfl, .ref a, _, rfl, .ref b, _, rfl, rfl, ?_⟩
                exact hr d1 kt kk F _ _ H' Dn s3 (wp_adv av q)
/-- return x, an object of the def's own -/
theorem run_retC (c : Cd CX k wd N sc X) (ho : wd.own = true) {ct : Ct} {sl : Sl} (hx : visB sc x = true) (hN : N[i]? = some x) (hρ : ρ[i]? = some sl) (hc : ct.sl = sl) : Run X wd eS eB (fun _ : Unit => []) ρ [.Return (some (.Name x p)) pos] (R.ret (.rt (encC ct) ()) : R (Out S B Unit)) := fun F ad σ H Dn st q => by
  obtain ⟨v1, v2, v3⟩ := c.vis hx
  subst hc
  obtain ⟨ev, hct⟩ := ok_sl (st.sl i _ hρ)
  have ow : Own ρ i := ⟨_, hρ, sl_own ct⟩
  refine bss (pss_one (ps_ret (pe_var (i := i) (c.at hN) v1 v2 v3))) ⟨_, ev, ?_⟩
  have hl : Le (wipeS ρ [i]) ρ := ⟨wipeS_length _, fun j s e => by
    by_cases hj : i = j
    · subst hj
      by_cases hl : i < ρ.length
      · unfold wipeS wipeS at e; rw [List.getElem?_set_self hl] at e; cases e; exact .inl rfl
      · unfold wipeS wipeS at e; rw [List.getElem?_eq_none (by simpa using hl)] at e; cases e
    · unfold wipeS wipeS at e; rw [List.getElem?_set_ne hj] at e; exact .inr (.inl e)⟩
  have nban : ¬ Ban F (wipeS ρ [i]) ad (ad i) := by
    rintro (z | ⟨j, ⟨s, e, qs⟩, ej⟩)
    · exact st.nf i ow z
    · have oj : Own ρ j := hl.own ⟨s, e, qs⟩
      have := st.inj j i oj ow ej
      subst this
      have hlt : j < ρ.length := (List.getElem?_eq_some_iff.mp hρ).1
      unfold wipeS wipeS at e
      rw [List.getElem?_set_self hlt] at e
      cases e; cases qs
  refine q (.ref (ad i)) ad (wipeS ρ [i]) σ H (.less fun _ => hl.own) (st.le hl) (fun j s e => by simp at e) (.inr ⟨ho, [ad i], by simp, fun a ha => ?_, .one (hct.weak fun b z => ?_)⟩)
  · have : a = ad i := by simpa using ha
    subst this
    exact ⟨nban, fun z => st.nf i ow (st.dF z), .inl ⟨i, ow, rfl⟩⟩
  · rcases z with z | z
    · exact hl.ban z
    · have : b = ad i := by simpa using z
      subst this
      exact .inr ⟨i, ow, rfl⟩
/-- return a, x, y -/
theorem run_retC3 (c : Cd CX k wd N sc X) (ho : wd.own = true) {ct ct2 : Ct} {sl sl2 : Sl} (ha : Ev X wd ρ a ra) (hx : visB sc x = true) (hN : N[i]? = some x) (hρ : ρ[i]? = some sl) (hc : ct.sl = sl) (hy : visB sc y = true) (hN2 : N[l]? = some y) (hρ2 : ρ[l]? = some sl2) (hc2 : ct2.sl = sl2) (hne : i ≠ l) {kt : Nat} (hs : Plain X a := by exact fun _ => rfl) :
    Run X wd eS eB (fun _ : Unit => []) ρ [.Return (some (.Tuple [a, .Name x px, .Name y py] kt pt)) pos] (ra.bind fun d => R.ret (.rt (.tuple [d, encC ct, encC ct2]) ()) : R (Out S B Unit)) := fun F ad σ H Dn st q => by
  obtain ⟨v1, v2, v3⟩ := c.vis hx
  obtain ⟨w1, w2, w3⟩ := c.vis hy
  subst hc hc2
  refine bss (pss_one (ps_ret (pe_tup (pa_cons pe_b (pa_cons (pe_var (i := i) (c.at hN) v1 v2 v3) (pa_cons (pe_var (i := l) (c.at hN2) w1 w2 w3) pa_nil rfl) rfl) (hs _))))) ?_
  refine step_ev (o := fun d => R.ret (.rt (.tuple [d, encC ct, encC ct2]) ())) ha st q fun d v H' g r q => ?_
  have s1 := st.grow g
  obtain ⟨ev, hct⟩ := ok_sl (s1.sl i _ hρ)
  obtain ⟨ev2, hct2⟩ := ok_sl (s1.sl l _ hρ2)
  have ow : Own ρ i := ⟨_, hρ, sl_own ct⟩
  have ow2 : Own ρ l := ⟨_, hρ2, sl_own ct2⟩
  refine ⟨_, ev, _, ev2, by show 3 ≤ sizeLine; decide, fun p hp => ?_⟩
  have g2 : Grow wd.dr H' (upd H' p (.tup [v, .ref (ad i), .ref (ad l)])) := Grow.same (same_upd hp)
  have s2 := s1.grow g2
  have hl : Le (wipeS ρ [i, l]) ρ := ⟨wipeS_length _, fun j s e => by
    unfold wipeS wipeS wipeS at e
    by_cases hj : i = j
    · subst hj
      by_cases hl : i < (ρ.set l .no).length
      · rw [List.getElem?_set_self hl] at e; cases e; exact .inl rfl
      · rw [List.getElem?_eq_none (by rw [List.length_set]; omega)] at e; cases e
    · rw [List.getElem?_set_ne hj] at e
      by_cases hj2 : l = j
      · subst hj2
        by_cases hl : l < ρ.length
        · rw [List.getElem?_set_self hl] at e; cases e; exact .inl rfl
        · rw [List.getElem?_eq_none (by rw [List.length_set]; omega)] at e; cases e
      · rw [List.getElem?_set_ne hj2] at e; exact .inr (.inl e)⟩
  have nown : ∀ j, (j = i ∨ j = l) → ¬ Own (wipeS ρ [i, l]) j := by
    rintro j hj ⟨s, e, qs⟩
    have hlt : j < ρ.length := by
      have := (List.getElem?_eq_some_iff.mp e).1
      rw [wipeS_length] at this
      exact this
    unfold wipeS wipeS wipeS at e
    by_cases h1 : i = j
    · subst h1
      rw [List.getElem?_set_self (by rw [List.length_set]; exact hlt)] at e
      cases e; cases qs
    · rw [List.getElem?_set_ne h1] at e
      rcases hj with rfl | rfl
      · exact h1 rfl
      · rw [List.getElem?_set_self hlt] at e
        cases e; cases qs
  have nban : ∀ t, Own ρ t → (t = i ∨ t = l) → ¬ Ban F (wipeS ρ [i, l]) ad (ad t) := by
    rintro t ot ht (z | ⟨j, oj, ej⟩)
    · exact st.nf t ot z
    · have := st.inj j t (hl.own oj) ot ej
      subst this
      exact nown _ ht oj
  have hne' : ad i ≠ ad l := fun z => hne (st.inj i l ow ow2 z)
  have st2 : Stay (Ban F ρ ad) H' (upd H' p (.tup [v, .ref (ad i), .ref (ad l)])) := s1.stays g2
  have wk : ∀ b, (Ban F (wipeS ρ [i, l]) ad b ∨ b ∈ [ad i, ad l]) → Ban F ρ ad b := fun b z => by
    rcases z with z | z
    · exact hl.ban z
    · simp only [List.mem_cons, List.not_mem_nil, or_false] at z
      rcases z with rfl | rfl
      · exact .inr ⟨i, ow, rfl⟩
      · exact .inr ⟨l, ow2, rfl⟩
  have keep : ∀ {t : Nat} {o : HO}, Own ρ t → H' (ad t) = some o → upd H' p (.tup [v, .ref (ad i), .ref (ad l)]) (ad t) = some o := fun {t o} ot eo => by rw [upd_ne (ne_of_none eo hp)]; exact eo
  refine q (.ref p) ad (wipeS ρ [i, l]) σ _ (.trans (.grow g2) (.less fun _ => hl.own)) (s2.le hl) (fun j s e => by simp at e) (.inr ⟨ho, [ad i, ad l], by simp [hne'], fun a ha => ?_, .tup upd_same (.d ((r.stay st2).weak wk) (.o ((hct.mono (fun _ _ r => r.stay st2) (fun _ _ r => r.stay st2) fun o eo => keep ow eo).weak wk) (.o ((hct2.mono (fun _ _ r => r.stay st2) (fun _ _ r => r.stay st2) fun o eo => keep ow2 eo).weak wk) .nil)))⟩)
  simp only [List.mem_cons, List.not_mem_nil, or_false] at ha
  rcases ha with rfl | rfl
  · exact ⟨nban i ow (.inl rfl), fun z => st.nf i ow (st.dF z), .inl ⟨i, ow, rfl⟩⟩
  · exact ⟨nban l ow2 (.inr rfl), fun z => st.nf l ow2 (st.dF z), .inl ⟨l, ow2, rfl⟩⟩
end
end Pu
/-! Pct: comprehensions over tuples, tuples of the module, a dict beside {}. -/
namespace Pu
open PySem PySem.Spec PyProof.Rows L2 R
def isT2 : D → R Bool
  | .tuple [_, _] => ret true
  | _ => bad
def isT3 : D → R Bool
  | .tuple [_, _, _] => ret true
  | _ => bad
section
variable {CX : CXT} {k : Nat} {wd : Wd} {N : List Str} {sc : Scope} {X : Cx} {ρ : List Sl} {e a b c tg iter elt t : Expr} {pos p px py pz pt : Pos} {ra rb : R D} {x y z : Str} {i j l : Nat} {sl sl2 sl3 : Sl} {ct : Ct}
theorem isT2_of {i j : Nat} {d : D} {ρ' : List Sl} (h : stT 2 [i, j] ρ d = some ρ') : isT2 d = ret true := by
  obtain ⟨a, b, rfl, _⟩ := stT2 h; rfl
theorem isT2_no {i j : Nat} {d : D} (h : stT 2 [i, j] ρ d = none) : isT2 d = bad := by
  have := stT2n (ρ := ρ) (i := i) (j := j) (f := fun _ _ => (ret true : R Bool)) h
  rw [← this]
  cases d with
  | tuple xs =>
    match xs with
    | [a, b] => rfl
    | [] => rfl
    | [_] => rfl
    | _ :: _ :: _ :: _ => rfl
  | _ => rfl
theorem isT3_of {i j l : Nat} {d : D} {ρ' : List Sl} (h : stT 3 [i, j, l] ρ d = some ρ') : isT3 d = ret true := by
  obtain ⟨a, b, c, rfl, _⟩ := stT3 h; rfl
theorem isT3_no {i j l : Nat} {d : D} (h : stT 3 [i, j, l] ρ d = none) : isT3 d = bad := by
  have := stT3n (ρ := ρ) (i := i) (j := j) (l := l) (f := fun _ _ _ => (ret true : R Bool)) h
  rw [← this]
  cases d with
  | tuple xs =>
    match xs with
    | [a, b, c] => rfl
    | [] => rfl
    | [_] => rfl
    | [_, _] => rfl
    | _ :: _ :: _ :: _ :: _ => rfl
  | _ => rfl
theorem blkg_tup2 [Calm wd] (c : Cw CX k wd N sc X) {scope : Scope} {kt : Nat} (h1 : BlkG X scope (.Name x px) (gName i)) (h2 : BlkG X scope (.Name y py) (gName j)) : BlkG X scope (.Tuple [.Name x px, .Name y py] kt pt) (gTup X.K 2 (gNames [i, j])) :=
  fun s H C cl fp => pg_tup c.calm (pgs_cons (h1 s H C cl fp) (pgs_cons (h2 s H C cl fp) pgs_nil))
theorem blkg_tup3 [Calm wd] (c : Cw CX k wd N sc X) {scope : Scope} {kt : Nat} (h1 : BlkG X scope (.Name x px) (gName i)) (h2 : BlkG X scope (.Name y py) (gName j)) (h3 : BlkG X scope (.Name z pz) (gName l)) : BlkG X scope (.Tuple [.Name x px, .Name y py, .Name z pz] kt pt) (gTup X.K 3 (gNames [i, j, l])) :=
  fun s H C cl fp => pg_tup c.calm (pgs_cons (h1 s H C cl fp) (pgs_cons (h2 s H C cl fp) (pgs_cons (h3 s H C cl fp) pgs_nil)))
/-- [elt for x, y in iter] -/
theorem evl_compT2 [Calm wd] (c : Cw CX k wd N sc X) {scope : Scope} {f : D → D → R D} {r : R (List D)} {kt : Nat} (hok : blkC N sc scope [(x, i), (y, j)] = true) (hN : N[i]? = some x) (hx : tgB scope sc x = true) (hN2 : N[j]? = some y) (hy : tgB scope sc y = true) (hno : ρ[i]? = some sl) (hsl : sl.own = false) (hno2 : ρ[j]? = some sl2) (hsl2 : sl2.own = false)
    (hi : EvJ X wd ρ (.Tuple [.Name x px, .Name y py] kt pt) iter r) (hel : ∀ a b s0 H0 C cl fp, Ev (X.blk s0 H0 scope (compEnvC scope cl C X.env) fp) wd.calm (((wipeS ρ [i, j]).set i (.d a)).set j (.d b)) elt (f a b)) (hs : ∀ x, foldedSetIterable iter X.env x = pure x := by exact fun _ => rfl) :
    EvL X wd ρ (.ListComp elt [⟨.Tuple [.Name x px, .Name y py] kt pt, iter, [], 0⟩] scope pos) (r.bind fun ds => compR isT2 (fun d => unp2 d f) ds []) :=
  evl_compG c (own := [(x, i), (y, j)]) hok (blkg_tup2 c (blkg_name c hN hx) (blkg_name c hN2 hy)) (gs_tup (ρ := wipeS ρ [i, j]) (is := [i, j])) (fun u hu => by
    simp only [List.map_cons, List.map_nil, List.mem_cons, List.not_mem_nil, or_false] at hu
    rcases hu with rfl | rfl
    · exact not_own hno hsl
    · exact not_own hno2 hsl2) hi (Nat.zero_le _) ⟨fun d e => isT2_no e, fun d ρ' e => by obtain ⟨a, b, rfl, rfl⟩ := stT2 e; exact hel a b, fun d ρ' e => isT2_of e⟩ hs
/-- [elt for x, y in iter if t] -/
theorem evl_compT2if [Calm wd] (c : Cw CX k wd N sc X) {scope : Scope} {f : D → D → R D} {cf : D → D → R Bool} {r : R (List D)} {kt : Nat} (hok : blkC N sc scope [(x, i), (y, j)] = true) (hN : N[i]? = some x) (hx : tgB scope sc x = true) (hN2 : N[j]? = some y) (hy : tgB scope sc y = true) (hno : ρ[i]? = some sl) (hsl : sl.own = false) (hno2 : ρ[j]? = some sl2) (hsl2 : sl2.own = false)
    (hi : EvJ X wd ρ (.Tuple [.Name x px, .Name y py] kt pt) iter r) (ht : ∀ a b s0 H0 C cl fp, EvT (X.blk s0 H0 scope (compEnvC scope cl C X.env) fp) wd.calm (((wipeS ρ [i, j]).set i (.d a)).set j (.d b)) t (cf a b)) (hel : ∀ a b s0 H0 C cl fp, Ev (X.blk s0 H0 scope (compEnvC scope cl C X.env) fp) wd.calm (((wipeS ρ [i, j]).set i (.d a)).set j (.d b)) elt (f a b)) (hs : ∀ x, foldedSetIterable iter X.env x = pure x := by exact fun _ => rfl) :
    EvL X wd ρ (.ListComp elt [⟨.Tuple [.Name x px, .Name y py] kt pt, iter, [t], 0⟩] scope pos) (r.bind fun ds => compR (fun d => unp2 d cf) (fun d => unp2 d f) ds []) :=
  evl_compG c (own := [(x, i), (y, j)]) hok (blkg_tup2 c (blkg_name c hN hx) (blkg_name c hN2 hy)) (gs_tup (ρ := wipeS ρ [i, j]) (is := [i, j])) (fun u hu => by
    simp only [List.map_cons, List.map_nil, List.mem_cons, List.not_mem_nil, or_false] at hu
    rcases hu with rfl | rfl
    · exact not_own hno hsl
    · exact not_own hno2 hsl2) hi (Nat.le_refl _) ⟨fun d e => stT2n e, fun d ρ' e => by obtain ⟨a, b, rfl, rfl⟩ := stT2 e; exact hel a b, fun d ρ' e => by obtain ⟨a, b, rfl, rfl⟩ := stT2 e; exact ht a b⟩ hs
theorem evl_compT3 [Calm wd] (c : Cw CX k wd N sc X) {scope : Scope} {f : D → D → D → R D} {r : R (List D)} {kt : Nat} (hok : blkC N sc scope [(x, i), (y, j), (z, l)] = true) (hN : N[i]? = some x) (hx : tgB scope sc x = true) (hN2 : N[j]? = some y) (hy : tgB scope sc y = true) (hN3 : N[l]? = some z) (hz : tgB scope sc z = true) (hno : ρ[i]? = some sl) (hsl : sl.own = false) (hno2 : ρ[j]? = some sl2) (hsl2 : sl2.own = false) (hno3 : ρ[l]? = some sl3) (hsl3 : sl3.own = false)
    (hi : EvJ X wd ρ (.Tuple [.Name x px, .Name y py, .Name z pz] kt pt) iter r) (hel : ∀ a b d s0 H0 C cl fp, Ev (X.blk s0 H0 scope (compEnvC scope cl C X.env) fp) wd.calm ((((wipeS ρ [i, j, l]).set i (.d a)).set j (.d b)).set l (.d d)) elt (f a b d)) (hs : ∀ x, foldedSetIterable iter X.env x = pure x := by exact fun _ => rfl) :
    EvL X wd ρ (.ListComp elt [⟨.Tuple [.Name x px, .Name y py, .Name z pz] kt pt, iter, [], 0⟩] scope pos) (r.bind fun ds => compR isT3 (fun d => unp3 d f) ds []) :=
  evl_compG c (own := [(x, i), (y, j), (z, l)]) hok (blkg_tup3 c (blkg_name c hN hx) (blkg_name c hN2 hy) (blkg_name c hN3 hz)) (gs_tup (ρ := wipeS ρ [i, j, l]) (is := [i, j, l])) (fun u hu => by
    simp only [List.map_cons, List.map_nil, List.mem_cons, List.not_mem_nil, or_false] at hu
    rcases hu with rfl | rfl | rfl
    · exact not_own hno hsl
    · exact not_own hno2 hsl2
    · exact not_own hno3 hsl3) hi (Nat.zero_le _) ⟨fun d e => isT3_no e, fun d ρ' e => by obtain ⟨a, b, d, rfl, rfl⟩ := stT3 e; exact hel a b d, fun d ρ' e => isT3_of e⟩ hs
theorem evl_compT3if [Calm wd] (c : Cw CX k wd N sc X) {scope : Scope} {f : D → D → D → R D} {cf : D → D → D → R Bool} {r : R (List D)} {kt : Nat} (hok : blkC N sc scope [(x, i), (y, j), (z, l)] = true) (hN : N[i]? = some x) (hx : tgB scope sc x = true) (hN2 : N[j]? = some y) (hy : tgB scope sc y = true) (hN3 : N[l]? = some z) (hz : tgB scope sc z = true) (hno : ρ[i]? = some sl) (hsl : sl.own = false) (hno2 : ρ[j]? = some sl2) (hsl2 : sl2.own = false) (hno3 : ρ[l]? = some sl3) (hsl3 : sl3.own = false)
    (hi : EvJ X wd ρ (.Tuple [.Name x px, .Name y py, .Name z pz] kt pt) iter r) (ht : ∀ a b d s0 H0 C cl fp, EvT (X.blk s0 H0 scope (compEnvC scope cl C X.env) fp) wd.calm ((((wipeS ρ [i, j, l]).set i (.d a)).set j (.d b)).set l (.d d)) t (cf a b d)) (hel : ∀ a b d s0 H0 C cl fp, Ev (X.blk s0 H0 scope (compEnvC scope cl C X.env) fp) wd.calm ((((wipeS ρ [i, j, l]).set i (.d a)).set j (.d b)).set l (.d d)) elt (f a b d)) (hs : ∀ x, foldedSetIterable iter X.env x = pure x := by exact fun _ => rfl) :
    EvL X wd ρ (.ListComp elt [⟨.Tuple [.Name x px, .Name y py, .Name z pz] kt pt, iter, [t], 0⟩] scope pos) (r.bind fun ds => compR (fun d => unp3 d cf) (fun d => unp3 d f) ds []) :=
  evl_compG c (own := [(x, i), (y, j), (z, l)]) hok (blkg_tup3 c (blkg_name c hN hx) (blkg_name c hN2 hy) (blkg_name c hN3 hz)) (gs_tup (ρ := wipeS ρ [i, j, l]) (is := [i, j, l])) (fun u hu => by
    simp only [List.map_cons, List.map_nil, List.mem_cons, List.not_mem_nil, or_false] at hu
    rcases hu with rfl | rfl | rfl
    · exact not_own hno hsl
    · exact not_own hno2 hsl2
    · exact not_own hno3 hsl3) hi (Nat.le_refl _) ⟨fun d e => stT3n e, fun d ρ' e => by obtain ⟨a, b, d, rfl, rfl⟩ := stT3 e; exact hel a b d, fun d ρ' e => by obtain ⟨a, b, d, rfl, rfl⟩ := stT3 e; exact ht a b d⟩ hs
/-! ### a tuple of the module -/
theorem ev_inT (c : Cw CX k wd N sc X) {ds : List D} (hg : glB sc y = true) (hm : GTup X.K X.mg y ds) (ha : EvB X wd ρ a ra) (hb : behindInMarks .In (.Name y py) = false := by rfl) : Ev X wd ρ (.Compare a [.In] [.Name y py] pos) (ra.bind fun x => inR x (.tuple ds)) := fun F ad σ H Q s q => by
  obtain ⟨v1, v2, _⟩ := c.gl hg
  obtain ⟨ta, u, h1, h2, hf, h3⟩ := hm
  refine be (pe_cmpR op_in_seq pe_b (pe_glob v1 h1 h2 v2) hb) ?_
  rw [wp_bind] at q
  refine ha F ad σ H _ s (wp_mono (fun d q v H1 g1 r1 => ?_) (fun _ _ z => z) q)
  obtain ⟨hh, q⟩ := wp_ite q
  rw [Bool.and_eq_true] at hh
  have rd : Rep X.K (Ban F ρ ad) H1 v d := by
    rcases r1 with h | ⟨_, _, _, _, rfl, _⟩
    · exact h
    · cases hh.1
  refine ⟨ta, ds.map dV, rfl, .inr (h3 H1), flat_rep rd hh.1, flats_rep (rep_dV hf (K := X.K) (B := Ban F ρ ad) (H := H1)) hf, ?_⟩
  rw [show (if false = true then !inV v (ds.map dV) else inV v (ds.map dV)) = inB d ds from in_rep rd hh.1 (rep_dV hf) hf]
  exact q _ _ g1 (.bl _)
theorem con_mk_tup {K : PySem.W.Frag} {mg : Str → Option Value} {h : Heap} (X : K.In h) (G : h.Ns mainGlobals mg) {ad : Addr} {o : Obj} {us : List Value} {ds : List D} {n : Nat} (a : PySem.W.nsIn K mainGlobals x = some (some (.ref ad))) (l : K.lookup ad = some o) (hc : o.cls = .type "tuple") (hd : o.data = .seq us.toArray n) (hz : us.length ≤ sizeLine) (hv : Vals (ds.map dV) us) (hf : ds.all flatD = true) : GTup K mg x ds :=
  ⟨ad, .ref ad, PySem.W.mg_of X G a, rfl, hf, fun H => .inr ⟨o, us.toArray, n, l, hc, hd, by simpa using hz, by simpa using hv⟩⟩
/-! ### d != {} -/
def neER (c : Ct) : R D := match c with
  | .k kvs => ret (.bool (!kvs.isEmpty))
  | _ => bad
theorem op_neE {X : Cx} (hu : X.A.units < cLine) : OpR X (compareOp .NotEq) (fun x y H Q => ∃ a b ks, x = .ref a ∧ y = .ref b ∧ H a = some (.dK ks) ∧ H b = some (.dK []) ∧ Q (.bl (!ks.isEmpty)) H) := by
  intro pins s σ H x y v u Q I rx ry h
  obtain ⟨a, b, ks, rfl, rfl, ea, eb, q⟩ := h
  obtain rfl : v = Value.ref a := rx
  obtain rfl : u = Value.ref b := ry
  obtain ⟨_, ya, va, ra, da⟩ := dk_of I.hok ea
  obtain ⟨_, yb, vb, rb, db⟩ := dk_of I.hok eb
  cases rb
  have hl : va.length = ks.length := ra.length.symm
  refine PySem.W.keq_ne (knd := mixKind X.prog X.w) (r := true) ya yb da db hu (fun z => ?_) ⟨.bl _, H, I, ?_, q⟩
  · have : va = [] := List.eq_nil_of_length_eq_zero z
    rw [this]
    exact .nil
  · show Value.bool _ = Value.bool _
    congr 1
    cases ks with
    | nil => cases va with
      | nil => rfl
      | cons => cases hl
    | cons k ks => cases va with
      | nil => cases hl
      | cons => simp
theorem ev_neE (cx : Cw CX k wd N sc X) (hv : visB sc x = true) (hN : N[i]? = some x) (hρ : ρ[i]? = some sl) (hc : sl.ct = some ct) (hb : behindInMarks .NotEq (.Dict [] [] py) = false := by exact nobehind _ (by decide) (by decide)) : Ev X wd ρ (.Compare (.Name x p) [.NotEq] [.Dict [] [] py] pos) (neER ct) := fun F ad σ H Q s q => by
  obtain ⟨v1, v2, v3⟩ := cx.vis hv
  refine be (pe_cmpR (op_neE (by have := cx.u64; omega)) (pe_var (i := i) (by rw [cx.hN]; exact hN) v1 v2 v3) pe_dnewK hb) ?_
  obtain ⟨o, eo, hct, _⟩ := ct_at s hρ hc
  refine ⟨_, eo, fun b hb => ?_⟩
  cases ct with
  | k kvs =>
    obtain ⟨vs, e, pr⟩ := hct
    have ne : o ≠ b := fun z => by rw [z, hb] at e; cases e
    refine ⟨o, b, vs, rfl, rfl, by rw [upd_ne ne]; exact e, upd_same, ?_⟩
    have e2 : vs.isEmpty = kvs.isEmpty := by cases pr <;> rfl
    rw [e2]
    exact q _ _ (Grow.same (same_upd hb)) (.bl _)
  | _ => exact q.elim
/-- x is None, x an object -/
theorem ev_isC (cx : Cw CX k wd N sc X) {jj : Nat} (hv : visB sc x = true) (hN : N[i]? = some x) (hρ : ρ[i]? = some sl) (hc : sl.ct = some ct) : Ev X wd ρ (.Compare (.Name x p) [.Is] [.Constant .none jj py] pos) (ret (.bool false)) := fun F ad σ H Q s q => by
  obtain ⟨v1, v2, v3⟩ := cx.vis hv
  refine be (pe_cmp (pc_isN (pe_var (i := i) (by rw [cx.hN]; exact hN) v1 v2 v3))) ?_
  obtain ⟨o, eo, hct, _⟩ := ct_at s hρ hc
  exact ⟨_, eo, q _ _ (Grow.refl _ _) (.bl _)⟩
end
end Pu
/-! Pev: tests; small helpers of the printer. -/
namespace Pu
open PySem PySem.Spec PyProof.Rows L2 R
theorem ht_le {ρ ρ' : List Sl} (h : Le ρ' ρ) : ∀ (i : Nat) (s : Sl), ρ'[i]? = some s → s.own = true → ρ[i]? = some s := fun i s e o => by
  rcases h.2 i s e with rfl | z | ⟨xs, rfl, _⟩
  · cases o
  · exact z
  · cases o
theorem own_nil {ρ : List Sl} : ∀ j ∈ ([] : List Nat), Own ρ j := by simp
theorem own_cons {ρ : List Sl} {i : Nat} {I : List Nat} {s : Sl} (e : ρ[i]? = some s) (h : s.own = true) (t : ∀ j ∈ I, Own ρ j) : ∀ j ∈ i :: I, Own ρ j := fun j hj => by
  rcases List.mem_cons.mp hj with rfl | hj
  · exact ⟨s, e, h⟩
  · exact t j hj
section
variable {CX : CXT} {k : Nat} {wd : Wd} {N : List Str} {sc : Scope} {X : Cx} {ρ : List Sl} {a b : Expr} {pos p px py : Pos} {ra rb : R D} {x y : Str} {i : Nat} {sl : Sl} {ct : Ct}
theorem evb_bor (c : Cw CX k wd N sc X) {xs : List D} (hv : visB sc x = true) (hN : N[i]? = some x) (hρ : ρ[i]? = some (.b (.l xs))) : EvB X wd ρ (.Name x p) (ret (.list xs)) := fun F ad σ H Q s q => by
  obtain ⟨v1, v2, v3⟩ := c.vis hv
  obtain ⟨e, h1, h2, h3, vs, h4, r⟩ := s.sl i _ hρ
  exact be (pe_var (i := i) (by rw [c.hN]; exact hN) v1 v2 v3) ⟨_, h1, q _ H (Grow.refl _ _) (.inr ⟨_, vs, xs, rfl, rfl, ⟨h4, h3⟩, r⟩)⟩
theorem evt_in (c : Cw CX k wd N sc X) (ha : EvB X wd ρ a ra) (hb : EvB X wd ρ b rb) (hm : behindInMarks .In b = false := by rfl) : EvT X wd ρ (.Compare a [.In] [b] pos) (ra.bind fun x => rb.bind fun y => (inR x y).bind boolR) :=
  evt_cmp (OpR.or op_in_seq (OpR.or (op_inD (by have := c.un; omega)) op_in_sign)) opS_in hm ha hb
theorem evt_notin (c : Cw CX k wd N sc X) (ha : EvB X wd ρ a ra) (hb : EvB X wd ρ b rb) (hm : behindInMarks .NotIn b = false := by rfl) : EvT X wd ρ (.Compare a [.NotIn] [b] pos) (ra.bind fun x => rb.bind fun y => (ninR x y).bind boolR) :=
  evt_cmp (OpR.or op_notIn_seq (OpR.or (op_notInD (by have := c.un; omega)) op_notIn_sign)) opS_nin hm ha hb
theorem evt_din (cx : Cw CX k wd N sc X) (hv : visB sc x = true) (hN : N[i]? = some x) (hρ : ρ[i]? = some sl) (hc : sl.ct = some ct) (ha : Ev X wd ρ a ra) : EvT X wd ρ (.Compare a [.In] [.Name x p] pos) (ra.bind fun y => (dinR ct y).bind boolR) := fun F ad σ H Q s q => by
  obtain ⟨v1, v2, v3⟩ := cx.vis hv
  refine bt (pt_cmp (pc_din cx.u1 pe_b (pe_var (i := i) (by rw [cx.hN]; exact hN) v1 v2 v3)) rfl) ?_
  rw [wp_bind] at q
  refine ha F ad σ H _ s (wp_mono (fun y q v H1 g1 r1 => ?_) (fun _ _ z => z) q)
  obtain ⟨o, eo, hct, _⟩ := ct_at (s.grow g1) hρ hc
  unfold dinR at q
  cases e : getC ct y with
  | none => rw [e] at q; exact q.elim
  | some z =>
    rw [e] at q
    obtain ⟨_, w, hw, ov⟩ := dget_of hct r1 e
    refine ⟨_, eo, o, w, rfl, hw, _, rfl, ?_⟩
    have e : w.isSome = z.isSome := by cases ov <;> rfl
    rw [e]
    exact q _ g1
theorem evt_dnin (cx : Cw CX k wd N sc X) (hv : visB sc x = true) (hN : N[i]? = some x) (hρ : ρ[i]? = some sl) (hc : sl.ct = some ct) (ha : Ev X wd ρ a ra) : EvT X wd ρ (.Compare a [.NotIn] [.Name x p] pos) (ra.bind fun y => (dninR ct y).bind boolR) := fun F ad σ H Q s q => by
  obtain ⟨v1, v2, v3⟩ := cx.vis hv
  refine bt (pt_cmp (pc_dnotin cx.u1 pe_b (pe_var (i := i) (by rw [cx.hN]; exact hN) v1 v2 v3)) rfl) ?_
  rw [wp_bind] at q
  refine ha F ad σ H _ s (wp_mono (fun y q v H1 g1 r1 => ?_) (fun _ _ z => z) q)
  obtain ⟨o, eo, hct, _⟩ := ct_at (s.grow g1) hρ hc
  unfold dninR at q
  cases e : getC ct y with
  | none => rw [e] at q; exact q.elim
  | some z =>
    rw [e] at q
    obtain ⟨_, w, hw, ov⟩ := dget_of hct r1 e
    refine ⟨_, eo, o, w, rfl, hw, _, rfl, ?_⟩
    have e : w.isSome = z.isSome := by cases ov <;> rfl
    rw [e]
    exact q _ g1
theorem evt_inT (c : Cw CX k wd N sc X) {ds : List D} (hg : glB sc y = true) (hm : GTup X.K X.mg y ds) (ha : EvB X wd ρ a ra) (hb : behindInMarks .In (.Name y py) = false := by rfl) : EvT X wd ρ (.Compare a [.In] [.Name y py] pos) (ra.bind fun x => (inR x (.tuple ds)).bind boolR) := fun F ad σ H Q s q => by
  obtain ⟨v1, v2, _⟩ := c.gl hg
  obtain ⟨ta, u, h1, h2, hf, h3⟩ := hm
  refine bt (pt_cmpR op_in_seq pe_b (pe_glob v1 h1 h2 v2) hb) ?_
  rw [wp_bind] at q
  refine ha F ad σ H _ s (wp_mono (fun d q v H1 g1 r1 => ?_) (fun _ _ z => z) q)
  rw [wp_bind] at q
  obtain ⟨hh, q⟩ := wp_ite q
  rw [Bool.and_eq_true] at hh
  have rd : Rep X.K (Ban F ρ ad) H1 v d := by
    rcases r1 with h | ⟨_, _, _, _, rfl, _⟩
    · exact h
    · cases hh.1
  refine ⟨ta, ds.map dV, rfl, .inr (h3 H1), flat_rep rd hh.1, flats_rep (rep_dV hf (K := X.K) (B := Ban F ρ ad) (H := H1)) hf, _, rfl, ?_⟩
  rw [show (if false = true then !inV v (ds.map dV) else inV v (ds.map dV)) = inB d ds from in_rep rd hh.1 (rep_dV hf) hf]
  exact q _ g1
theorem evt_neE (cx : Cw CX k wd N sc X) (hv : visB sc x = true) (hN : N[i]? = some x) (hρ : ρ[i]? = some sl) (hc : sl.ct = some ct) (hb : behindInMarks .NotEq (.Dict [] [] py) = false := by exact nobehind _ (by decide) (by decide)) : EvT X wd ρ (.Compare (.Name x p) [.NotEq] [.Dict [] [] py] pos) ((neER ct).bind boolR) := fun F ad σ H Q s q => by
  obtain ⟨v1, v2, v3⟩ := cx.vis hv
  refine bt (pt_cmpR (op_neE (by have := cx.u64; omega)) (pe_var (i := i) (by rw [cx.hN]; exact hN) v1 v2 v3) pe_dnewK hb) ?_
  obtain ⟨o, eo, hct, _⟩ := ct_at s hρ hc
  refine ⟨_, eo, fun b hb => ?_⟩
  cases ct with
  | k kvs =>
    obtain ⟨vs, e, pr⟩ := hct
    have ne : o ≠ b := fun z => by rw [z, hb] at e; cases e
    refine ⟨o, b, vs, rfl, rfl, by rw [upd_ne ne]; exact e, upd_same, _, rfl, ?_⟩
    have e2 : vs.isEmpty = kvs.isEmpty := by cases pr <;> rfl
    rw [e2]
    exact q _ (Grow.same (same_upd hb))
  | _ => exact q.elim
theorem evt_isC (cx : Cw CX k wd N sc X) {jj : Nat} (hv : visB sc x = true) (hN : N[i]? = some x) (hρ : ρ[i]? = some sl) (hc : sl.ct = some ct) : EvT X wd ρ (.Compare (.Name x p) [.Is] [.Constant .none jj py] pos) (ret false) := fun F ad σ H Q s q => by
  obtain ⟨v1, v2, v3⟩ := cx.vis hv
  refine bt (pt_cmp (pc_isN (pe_var (i := i) (by rw [cx.hN]; exact hN) v1 v2 v3))) ?_
  obtain ⟨o, eo, hct, _⟩ := ct_at s hρ hc
  exact ⟨_, eo, _, rfl, q _ (Grow.refl _ _)⟩
end
section
variable {CX : CXT} {k : Nat} {wd : Wd} {N : List Str} {sc : Scope} {X : Cx} {S S1 B T : Type} {eS : S → List Sl} {eS1 : S1 → List Sl} {eB : B → List Sl} {eT : T → List Sl} {ρ : List Sl} {rest : List Stmt} {pos p px py pz : Pos} {x y z : Str} {i j l : Nat} {kt : Nat}
/-- for x, y in .. -/
theorem run_for2 [Calm wd] (c : Cd CX k wd N sc X) {iter : Expr} {body : List Stmt} {r : R (List D)} {s0 : S1} {f : D → D → S1 → R (Out S1 S1 T)} {o : S1 → R (Out S B T)} (hx : lcB sc x = true) (hN : N[i]? = some x) (hy : lcB sc y = true) (hN2 : N[j]? = some y)
    (hi : EvI X wd ρ (.Tuple [.Name x px, .Name y py] kt p) iter r) (hl : Le (eS1 s0) ρ)
    (hb : ∀ s a b, Run X wd eS1 eS1 eT (((eS1 s).set i (.d a)).set j (.d b)) body (f a b s)) (hr : ∀ s, Run X wd eS eB eT (eS1 s) rest (o s))
    (hs : ∀ x, foldedSetIterable iter X.env x = pure x := by exact fun _ => rfl) : Run X wd eS eB eT ρ (.For (.Tuple [.Name x px, .Name y py] kt p) iter body [] pos :: rest) (r.bind fun ds => seqR (forR (fun d s => unp2 d fun a b => f a b s) ds s0) o) :=
  run_forG c (vs := [i, j]) (st := fun s d => stT 2 [i, j] (eS1 s) d) hi hl (pg_tup c.calm (pgn_cons c hx hN (pgn_cons c hy hN2 pgn_nil))) (fun s => gs_tup (is := [i, j])) (fun s d e => stT2n e) (fun s d ρ' e => by obtain ⟨a, b, rfl, rfl⟩ := stT2 e; exact hb s a b) hr hs
/-- for x, y, z in .. -/
theorem run_for3 [Calm wd] (c : Cd CX k wd N sc X) {iter : Expr} {body : List Stmt} {r : R (List D)} {s0 : S1} {f : D → D → D → S1 → R (Out S1 S1 T)} {o : S1 → R (Out S B T)} (hx : lcB sc x = true) (hN : N[i]? = some x) (hy : lcB sc y = true) (hN2 : N[j]? = some y) (hz : lcB sc z = true) (hN3 : N[l]? = some z)
    (hi : EvI X wd ρ (.Tuple [.Name x px, .Name y py, .Name z pz] kt p) iter r) (hl : Le (eS1 s0) ρ)
    (hb : ∀ s a b d, Run X wd eS1 eS1 eT ((((eS1 s).set i (.d a)).set j (.d b)).set l (.d d)) body (f a b d s)) (hr : ∀ s, Run X wd eS eB eT (eS1 s) rest (o s))
    (hs : ∀ x, foldedSetIterable iter X.env x = pure x := by exact fun _ => rfl) : Run X wd eS eB eT ρ (.For (.Tuple [.Name x px, .Name y py, .Name z pz] kt p) iter body [] pos :: rest) (r.bind fun ds => seqR (forR (fun d s => unp3 d fun a b e => f a b e s) ds s0) o) :=
  run_forG c (vs := [i, j, l]) (st := fun s d => stT 3 [i, j, l] (eS1 s) d) hi hl (pg_tup c.calm (pgn_cons c hx hN (pgn_cons c hy hN2 (pgn_cons c hz hN3 pgn_nil)))) (fun s => gs_tup (is := [i, j, l])) (fun s d e => stT3n e) (fun s d ρ' e => by obtain ⟨a, b, g, rfl, rfl⟩ := stT3 e; exact hb s a b g) hr hs
end
end Pu
/-! Ptx: texts: split, int(text), len(set(texts)), d.get(k). -/
namespace Pu
open PySem PySem.Spec PyProof.Rows L2 R
/-- a.split(b) -/
def splitR (a : Str) : D → R (List D)
  | .str b => if (b.length == 0) = false ∧ a.length + 2 ≤ sizeLine then R.ret ((Txt.split a b).map PyData.str) else bad
  | _ => bad
theorem reps_of_strs {K : PySem.W.Frag} {B : Addr → Prop} {H : Hp} : ∀ ys : List Str, Reps K B H (ys.map V.str) (ys.map PyData.str)
  | [] => .nil
  | y :: ys => .cons (.str y) (reps_of_strs ys)
def intT : D → R D
  | .str a => (match PySem.intText? a with | some n => if a.length ≤ 640 then R.ret (.int n) else bad | none => bad)
  | _ => bad
/-- the texts of a list, each once -/
def onceS : List Str → List Str → List Str
  | acc, [] => acc
  | acc, y :: ys => onceS (if acc.contains y = true then acc else acc ++ [y]) ys
def lenSetR : D → R D
  | .tuple xs => (match allSome strOf xs with | some ys => if ys.length + 1 < 4096 then R.ret (.int (onceS [] ys).length) else bad | none => bad)
  | _ => bad
def dget1R (c : Ct) (k : D) : R D := match getC c k with
  | some o => ret (o.getD .none)
  | _ => bad
section
variable {CX : CXT} {k : Nat} {wd : Wd} {N : List Str} {sc : Scope} {X : Cx} {ρ : List Sl} {e a b : Expr} {pos apos p py ap : Pos} {ra rb : R D} {x : Str} {i : Nat} {sl : Sl} {ct : Ct}
theorem evl_split (ha : EvB X wd ρ a ra) (hb : EvB X wd ρ b rb) (hs : starEach [b] X.env = [(false, eval b X.env)] := by rfl) (hbase : attributeBase a "split" X.env (eval a X.env) = eval a X.env := by rfl) (hline : (apos.endLine == pos.line) = true := by rfl) :
    EvL X wd ρ (.Call (.Attribute a "split" apos) [b] [] pos) (ra.bind fun x => (strR x).bind fun x => rb.bind fun y => splitR x y) := fun F ad σ H Q s q => by
  refine be (pe_split pe_b pe_b hs hbase hline) ?_
  rw [wp_bind] at q
  refine ha F ad σ H _ s (wp_mono (fun d q v H1 g1 r1 => ?_) (fun _ _ z => z) q)
  have s1 := s.grow g1
  cases d with
  | str z =>
    have q : (rb.bind fun y => splitR z y).wp _ _ := q
    rw [wp_bind] at q
    refine ⟨⟨z, r1.str⟩, hb F ad σ H1 _ s1 (wp_mono (fun d2 q v2 H2 g2 r2 => ?_) (fun _ _ z => z.grow g1) q)⟩
    have s2 := s1.grow g2
    cases d2 with
    | str y =>
      obtain ⟨⟨h1, h2⟩, q⟩ := wp_ite q
      refine ⟨z, y, r1.str, by rw [r2.str], h1, h2, fun p hp => q _ _ _ ((g1.trans g2).trans (Grow.same (same_upd hp))) (free_grow s1 g2 hp |> fun z => ?_) upd_same (reps_of_strs _)⟩
      exact free_grow s (g1.trans g2) hp
    | _ => exact q.elim
  | _ => exact q.elim
theorem calS_intT {K : PySem.W.Frag} : CalS K (fun xs H Q => ∃ a n, xs = [.str a] ∧ PySem.intText? a = some n ∧ a.length ≤ 640 ∧ Q (.int n) H) intT := by
  intro B H x d Q E nb r q
  cases d with
  | str z =>
    unfold intT at q
    cases e : PySem.intText? z with
    | none => simp only [e] at q; exact q.elim
    | some n =>
      simp only [e] at q
      obtain ⟨h, q⟩ := wp_ite q
      exact ⟨z, n, by rw [r.str], e, h, q _ _ (Same.refl _) (.int _)⟩
  | _ => exact q.elim
theorem ev_intT (c : Cw CX k wd N sc X) (B : Bt X.mg) (hg : glB sc "int" = true) (ha : EvB X wd ρ a ra) (he : Plain X a := by exact fun _ => rfl) : Ev X wd ρ (.Call (.Name "int" p) [a] [] pos) (ra.bind fun x => intT x) := ev_t1 c call_int_str calS_intT hg B.int bv_int ha he
/-- d.get(a) -/
theorem ev_dget1 (cx : Cw CX k wd N sc X) (hv : visB sc x = true) (hN : N[i]? = some x) (hρ : ρ[i]? = some sl) (hc : sl.ct = some ct) (hk : ct.isD = true) (ha : Ev X wd ρ a ra) (m : M1 X (.Name x p) "get" ap a pos := by exact ⟨rfl, rfl, rfl, rfl⟩) :
    Ev X wd ρ (.Call (.Attribute (.Name x p) "get" ap) [a] [] pos) (ra.bind fun y => dget1R ct y) := fun F ad σ H Q s q => by
  obtain ⟨v1, v2, v3⟩ := cx.vis hv
  obtain ⟨o, eo, hct0, _⟩ := ct_at s hρ hc
  have isd : IsD H o := by
    cases ct with
    | l xs => cases hk
    | k kvs => obtain ⟨vs, e, _⟩ := hct0; exact .inl ⟨vs, .inl e⟩
    | t kvs => obtain ⟨vs, e, _⟩ := hct0; exact .inr ⟨vs, .inl e⟩
  refine be (pe_dget1 cx.u1 (pe_var (i := i) (by rw [cx.hN]; exact hN) v1 v2 v3) pe_b m) ⟨_, eo, o, rfl, isd, ?_⟩
  rw [wp_bind] at q
  refine ha F ad σ H _ s (wp_mono (fun y q v H1 g1 r1 => ?_) (fun _ _ z => z) q)
  have s1 := s.grow g1
  obtain ⟨o', eo', hct, _⟩ := ct_at s1 hρ hc
  rw [eo] at eo'
  cases eo'
  unfold dget1R at q
  cases e : getC ct y with
  | none => rw [e] at q; exact q.elim
  | some w =>
    rw [e] at q
    obtain ⟨_, w', hw, ov⟩ := dget_of hct r1 e
    refine ⟨w', hw, q _ _ g1 ?_⟩
    cases ov with
    | no => exact .non
    | so rv => exact rv
end
end Pu
/-! Pts: len(set(texts)). -/
namespace Pu
open PySem PySem.Spec PyProof.Rows L2 R
theorem onceS_snoc (y : Str) : ∀ (l acc : List Str), onceS acc (l ++ [y]) = if (onceS acc l).contains y = true then onceS acc l else onceS acc l ++ [y]
  | [], acc => rfl
  | z :: l, acc => by rw [List.cons_append]; unfold onceS; exact onceS_snoc y l _
theorem onceS_len : ∀ (l acc : List Str), (onceS acc l).length ≤ acc.length + l.length
  | [], acc => Nat.le_refl _
  | z :: l, acc => by
    unfold onceS
    refine Nat.le_trans (onceS_len l _) ?_
    rw [List.length_cons]
    split
    · omega
    · rw [List.length_append, List.length_singleton]; omega
/-- the set at a has just these texts -/
abbrev TxtSet (P : Program) (w : World) (h : Heap) (a : Addr) (ys : List Str) : Prop := h.SetOf (PySem.strKind P w) a (fun z => (onceS [] ys).contains z) (onceS [] ys).length
section
variable {P : Program} {w : World} {A : Around} {E : Value → Shared → Prop} {s : Shared}
theorem TxtSet.kept {h h' : Heap} {a : Addr} {ys : List Str} (T : TxtSet P w h a ys) (k : ∀ o, h.get? a = some o → h'.get? a = some o) : TxtSet P w h' a ys := by
  obtain ⟨o, es, ep, tb, g, r⟩ := T; exact ⟨o, es, ep, tb, k o g, r⟩
theorem TxtSet.more {h : Heap} {a : Addr} {ys : List Str} {y : Str} (T : h.SetOf (PySem.strKind P w) a (fun z => (onceS [] ys).contains z || decide (z = y)) (if (onceS [] ys).contains y = true then (onceS [] ys).length else (onceS [] ys).length + 1)) : TxtSet P w h a (ys ++ [y]) := by
  refine SetOf_congr T (fun z => ?_) ?_
  · rw [onceS_snoc]
    by_cases q : (onceS [] ys).contains y = true
    · rw [if_pos q]
      by_cases z1 : z = y
      · rw [z1, q]; rfl
      · simp [z1]
    · rw [if_neg q]; simp
  · rw [onceS_snoc]
    by_cases q : (onceS [] ys).contains y = true
    · rw [if_pos q, if_pos q]
    · rw [if_neg q, if_neg q, List.length_append, List.length_singleton]
theorem fill_texts {It : Addr} {fp wr : List Addr} {G : Array GenState → Array GenState → Prop} {n : Nat} {Pv : Nat → Value → Prop} {St : Nat → Shared → Prop} {Rs : Result → Shared → Prop}
    (W : WalksS P w A.in1 It fp wr G n Pv St) (a : Addr) (ha : a ∉ fp) (ys : List Str) (en : n = ys.length) (few : ys.length + 1 < scanBound) (val : ∀ j v, Pv j v → ∃ y t, ys[j]? = some y ∧ v = .str y t) :
    ∀ (m j : Nat) (s : Shared), m + j = n → St j s → TxtSet P w s.heap a (ys.take j) → (∀ s', Moved (a :: wr) G s s' → TxtSet P w s'.heap a ys → Rs (.ok (.ret .none)) s') → codeAny (model P w) A (.builtin "set.update.loop" ⟨[.ref a, .ref It], []⟩) Rs s := by
  have aw : a ∉ wr := fun z => ha (W.sub _ z)
  have up : ∀ b ∈ wr, b ∈ a :: wr := fun b z => .tail _ z
  intro m
  induction m with
  | zero =>
    intro j s e st T fin
    obtain rfl : j = n := by omega
    refine codeAny_builtin F.entry_set_update_loop ?_; rw [Around.under_plainId F.plain_set_update_loop _]
    refine wpAny_bind (m := pyNext (.ref It)) (W.done s _ _ st fun s1 mv => wpAny_pure (fin s1 (mv.mono up) ?_))
    rw [en, List.take_length] at T
    exact T.kept fun o g => mv.heap a o aw g
  | succ m ih =>
    intro j s e st T fin
    have lt : j < n := by omega
    refine codeAny_builtin F.entry_set_update_loop ?_; rw [Around.under_plainId F.plain_set_update_loop _]
    refine wpAny_bind (m := pyNext (.ref It)) (W.item j s _ _ lt st fun v s1 pv st1 mv => ?_)
    obtain ⟨y, t, ey, rfl⟩ := val j v pv
    have T1 : TxtSet P w s1.heap a (ys.take j) := T.kept fun o g => mv.heap a o aw g
    refine wpAny_bind (m := holding [Value.str y t] (setAdd a (.str y t))) (wpAny_holding ?_)
    unfold setAdd
    refine wpAny_holding (wpAny_bind ((PySem.strKind P w).pyHash (k := y) (strKind_is _ _ _ _) ?_))
    have ol := onceS_len (ys.take j) []
    rw [List.length_take] at ol
    refine wpAny_setAddHashed_of (knd := PySem.strKind P w) (s := { s1 with toks := s1.toks + 1 }) (strKind_is _ _ _ _) rfl T1 (by simp only [List.length_nil] at ol; omega) fun h2 sb T2 => ?_
    have T3 : TxtSet P w h2 a (ys.take (j + 1)) := by
      have et : ys.take (j + 1) = ys.take j ++ [y] := by rw [List.take_succ, ey]; rfl
      rw [et]
      exact TxtSet.more T2
    have stay : ∀ b o, b ≠ a → s1.heap.get? b = some o → h2.get? b = some o := fun b o z g => by rw [sb.2 b z]; exact g
    refine wpAny_pure ⟨plainId_quiet F.plain_set_update_loop _, ih (j + 1) _ (by omega) (W.frame _ s1 _ _ st1 (Nat.le_succ _) fun b z o g => stay b o (fun q => ha (by rw [← q]; exact z)) g) T3 fun s3 mv3 T4 => fin s3 ?_ T4⟩
    exact Moved.trans W.gtrans ((mv.mono up).then_heap (Nat.le_succ _) fun b o z g => stay b o (fun q => z (by rw [q]; exact .head _)) g) mv3
set_option maxHeartbeats 8000000 in
/-- set(t), t a tuple of texts -/
theorem set_of_texts {l : Addr} {its : Array Value} {ys : List Str} {Q : Value → Shared → Prop} (calm : A.handled = none) (tup : s.heap.IsTuple l its) (are : PyProof.Rows.StrsAre its.toList ys) (few : ys.length + 1 < scanBound)
    (done : ∀ (h' : Heap) (tk : Nat), TxtSet P w h' s.heap.objs.size ys → (∀ b o, s.heap.get? b = some o → h'.get? b = some o) → Q (.ref s.heap.objs.size) { s with heap := h', toks := tk }) : wpAny (model P w) A (call (.type "set") [.ref l]) Q E s := by
  obtain ⟨cc, rest, hmro⟩ := PySem.F.called_set.mro
  have made := PySem.F.called_set.made; have sub := PySem.F.called_set.sub
  refine wpAny_call (codeAny_of_tree (show wpAny _ _ (callAny (.type "set") _) _ _ _ from ?_))
  refine wpAny_pure ⟨Code.quiet_builtin _ (by decide +kernel), codeAny_builtin PySem.F.entry_type_call ?_⟩; rw [Around.under_plain (weight_type_call_type "set" [.ref l] []) rfl]
  have nt := PySem.F.called_set.notType; have cr := PySem.F.called_set.canCreate; have tc := PySem.F.typeCall_set_1 (.ref l)
  repeat' (first | assumption | wp_step)
  refine codeAny_mono (code_set_new_1 (.ref l) (E := E) (Q₁ := fun u s1 => ∃ led : Bool, u = .ref s.heap.objs.size ∧ s1 = { s with heap := s.heap.push { cls := .type "set", dict := none, data := .set #[] 0 (.fresh 0 0 led) } }) fun led => ⟨led, rfl, rfl⟩) fun r s1 hr => ?_
  match r, hr with
  | .error e, hr => exact hr
  | .ok (.ret u), ⟨led, eu, es⟩ =>
    subst eu; subst es
    generalize eo : ({ cls := .type "set", dict := none, data := .set #[] 0 (.fresh 0 0 led) } : Obj) = ob
    have gS : (s.heap.push ob).get? s.heap.objs.size = some ob := Heap.get?_push_size _ (by subst eo; rfl)
    have tS : Shared.TypeIs { s with heap := s.heap.push ob } (.ref s.heap.objs.size) "set" := ⟨ob, gS, by subst eo; rfl⟩
    have li := PySem.F.called_set.init.lookup; have bi := PySem.F.called_set.init.bind (.ref s.heap.objs.size)
    repeat' (first | assumption | wp_step)
    refine codeAny_mono (codeAny_call_builtin (R := wants (fun u s2 => u = .none ∧ ∃ (h2 : Heap) (tk : Nat), s2 = { s with heap := h2, toks := tk } ∧ TxtSet P w h2 s.heap.objs.size ys ∧ ∀ b o, s.heap.get? b = some o → h2.get? b = some o) E) PySem.F.called_set.init.plain PySem.F.entry_set_init (check_set_init_1 tS ?body)) fun r2 s2 hr2 => ?goal
    case body =>
      obtain ⟨⟨tc, td, tdat, tsl⟩, gl, ecl, nl, edt⟩ := tup
      simp only at ecl edt
      subst ecl edt
      have gl1 := Heap.get?_push_of_some ob gl
      have tup1 : (s.heap.push ob).IsTuple l its := ⟨_, gl1, rfl, nl, rfl⟩
      subst eo
      have n1 := PySem.F.sub_tuple_set; have n2 := PySem.F.sub_tuple_frozenset
      have n3 : (Value.type "tuple" == Value.type "dict") = false := by decide
      unfold Builtin.«set.__init__» noKeywords Builtin.Frozenset.updateFrom
      generalize hI : pyIter = itr
      wp_walk
      subst hI
      refine wpAny_pyIter_tuple tup1 ?_; refine wpAny_bind (wpAny_runValue ?_)
      have below : l < s.heap.objs.size := Heap.lt_size gl
      have sz1 := Heap.size_push s.heap ({ cls := .type "set", dict := none, data := .set #[] 0 (.fresh 0 0 led) } : Obj)
      have out : l ≠ (s.heap.push ({ cls := .type "set", dict := none, data := .set #[] 0 (.fresh 0 0 led) } : Obj)).objs.size := fun z => by rw [sz1] at z; exact Nat.ne_of_lt (Nat.lt_succ_of_lt below) z
      have apart : s.heap.objs.size ∉ [(s.heap.push ({ cls := .type "set", dict := none, data := .set #[] 0 (.fresh 0 0 led) } : Obj)).objs.size, l] := fun z => by
        rcases List.mem_cons.mp z with z | z
        · rw [sz1] at z; exact Nat.ne_of_lt (Nat.lt_succ_self _) z
        · exact Nat.ne_of_gt below (List.mem_singleton.mp z)
      have many : its.size = ys.length := by have := StrsAre.len_eq are; rw [Array.length_toList] at this; exact this
      have val : ∀ (j : Nat) (v : Value), its[j]? = some v → ∃ y t, ys[j]? = some y ∧ v = .str y t := fun j v hv => by
        have hj : j < ys.length := by rw [← many]; exact (Array.getElem?_eq_some_iff.mp hv).1
        obtain ⟨t, e⟩ := SS.strs_at are j v (by rw [Array.getElem?_toList]; exact hv)
        refine ⟨ys[j], t, List.getElem?_eq_getElem hj, ?_⟩
        rw [e, List.getD_eq_getElem?_getD, List.getElem?_eq_getElem hj]; rfl
      have calm3 : A.in1.in1.in1.handled = none := by simp [calm]
      refine fill_texts (Walks.tuple calm3 _ l out its).toS s.heap.objs.size apart ys many few val its.size 0 _ (Nat.add_zero _) ⟨⟨_, Heap.get?_push_size _ rfl, rfl, rfl⟩, tup1.push _⟩ ?start ?stop
      case start =>
        have g2 := Heap.get?_push_of_some { cls := .type "tuple_iterator", data := .fields #[.ref l, .int 0 0] } gS
        exact SetOf_congr ((setObjOf_fresh (knd := PySem.strKind P w) led).setOf g2 (by unfold scanBound; omega)) (fun _ => rfl) rfl
      case stop =>
        rintro ⟨h3, g3, d3, k3, o3⟩ mv T
        obtain rfl : g3 = s.gens := mv.gens
        obtain rfl : d3 = s.drawn := mv.drawn
        obtain rfl : o3 = s.os := mv.os
        show wpAny _ _ _ _ _ _
        refine wpAny_pure (show wpAny _ _ (ret Value.none) _ _ _ from wpAny_pure ⟨rfl, h3, k3, rfl, T, fun b o gb => ?_⟩)
        have bb : b < s.heap.objs.size := Heap.lt_size gb
        refine mv.heap b o (fun z => ?_) (Heap.get?_push_of_some _ (Heap.get?_push_of_some _ gb))
        rcases List.mem_cons.mp z with z | z
        · exact Nat.ne_of_lt bb z
        · rw [List.mem_singleton, sz1] at z; exact Nat.ne_of_lt (Nat.lt_succ_of_lt bb) z
    case goal =>
      match r2, hr2 with
      | .error e, hr2 => exact hr2
      | .ok (.ret u), ⟨eu, h2, tk, es2, T, kp⟩ =>
        subst eu; subst es2
        repeat' (first | assumption | wp_step)
        exact done h2 tk T kp
end
section
variable {CX : CXT} {k : Nat} {wd : Wd} {N : List Str} {sc : Scope} {X : Cx} {ρ : List Sl} {a : Expr} {p p2 q2 pos : Pos} {ra : R D} {ta : TE}
def tOnce (K : PySem.W.Frag) (ta : TE) : TE := fun σ H Q => ta σ H fun x H1 => ∃ l, ∃ ys : List Str, x = .ref l ∧ SqT K H1 l (ys.map V.str) ∧ ys.length + 1 < scanBound ∧ Q (.int (onceS [] ys).length) H1
theorem pe_once (calm : X.calm = true) (g1 : Gl X "len") (m1 : X.mg "len" = none) (g2 : Gl X "set") (m2 : X.mg "set" = none) (ha : PE X a ta) (na : starEach [a] X.env = (false, eval a X.env) :: starEach [] X.env := by rfl) : PE X (.Call (.Name "len" p) [.Call (.Name "set" p2) [a] [] q2] [] pos) (tOnce X.K ta) := by
  refine ⟨fun pins s σ H Q I h => Call_ (ld_blt I g1 m1 boot_len (PyProof.Rows.callWith_builtin1 (PyProof.Rows.args_cons ?_ rfl) rfl rfl))⟩
  refine Call_ (ld_blt I g2 m2 boot_set (PyProof.Rows.callWith_type1 (PyProof.Rows.args_cons (thn (ha.run pins s σ H _ I h) fun u s1 ⟨x, H1, J, rx, l, ys, ex, sq, few, fin⟩ => PyProof.Rows.args_nil ?_) na) na rfl))
  subst ex; cases rx
  obtain ⟨its, rv, tup, _⟩ := J.tuple sq
  refine set_of_texts (J.ok.hd calm) tup (by rw [List.toList_toArray]; exact L2.strsAre_of rv) few fun h2 tk T kp => PyProof.Rows.args_nil ?_
  obtain ⟨o, es, ep, tb, g, ex, ed, _, _, _, ft, en⟩ := T
  refine call_len_set g ex ed ft (by have := onceS_len ys []; rw [en]; unfold scanBound at few; simp only [List.length_nil] at this; omega) ⟨.int (onceS [] ys).length, H1, ?_, ⟨_, by rw [en]⟩, fin⟩
  exact (J.kept (h' := h2) (t' := tk) kp).tok _
theorem ev_lenSet [Calm wd] (c : Cw CX k wd N sc X) (B : Bt X.mg) (hl : glB sc "len" = true) (hg : glB sc "set" = true) (hm : X.mg "set" = none) (ha : EvB X wd ρ a ra) (he : Plain X a := by exact fun _ => rfl) : Ev X wd ρ (.Call (.Name "len" p) [.Call (.Name "set" p2) [a] [] q2] [] pos) (ra.bind fun x => lenSetR x) := fun F ad σ H Q s q => by
  refine be (pe_once c.calm (c.gl hl).1 B.len (c.gl hg).1 hm pe_b (he [])) ?_
  rw [wp_bind] at q
  refine ha F ad σ H _ s (wp_mono (fun d q v H1 g1 r1 => ?_) (fun _ _ z => z) q)
  cases d with
  | tuple xs =>
    unfold lenSetR at q
    cases e2 : allSome strOf xs with
    | none => simp only [e2] at q; exact q.elim
    | some ys =>
      simp only [e2] at q
      obtain ⟨h, q⟩ := wp_ite q
      obtain ⟨l, vs, rfl, e, rr⟩ := r1.tuple
      exact ⟨l, ys, rfl, by rw [← reps_strs rr e2]; exact e.sq, h, q _ _ g1 (.int _)⟩
  | _ => exact q.elim
end
end Pu
/-! Ptk: None or a new dict by ints and texts. -/
namespace Pu
open PySem PySem.Spec PyProof.Rows L2 R
def asKN {α : Type} (d : D) (g : R α) (f : List (Key × D) → R α) : R α := match d with
  | .none => g
  | _ => asK d f
section
variable {S S1 B T : Type} {eS : S → List Sl} {eS1 : S1 → List Sl} {eB : B → List Sl} {eT : T → List Sl} {rest A1 B1 : List Stmt}
theorem run_callKN [Calm wd] (c : Cd CX k wd N sc X) (W : NoW wd) (G : Df X.prog X.w X.K X.mg X.base CX j f (spX X.K true id (fun _ => []) m)) (hj : j ≤ k) (hg : glB sc f = true) (hx : lcB sc x = true) (hN : N[i]? = some x) (hi : wd.pin i = false) (hcs : CallS X wd ρ [] [] [] (e :: es) M m) {o1 : R (Out S B T)} {o : List (Key × D) → R (Out S B T)} (hr1 : Run X wd eS eB eT (ρ.set i (.d .none)) rest o1) (hr : ∀ kvs, Run X wd eS eB eT (ρ.set i (.k kvs)) rest (o kvs))
    (he : starEach (e :: es) X.env = (false, eval e X.env) :: starEach es X.env := by rfl) (hpl : (backTo pos (starEach es X.env)).any (·.1) = false := by rfl) {px : Pos} (hs2 : swapsWith (.Call (.Name f p) (e :: es) [] pos) (some (.Name x px)) py.line X.env = pure false := by rfl) :
    Run X wd eS eB eT ρ (.Assign [.Name x px] (.Call (.Name f p) (e :: es) [] pos) py :: rest) (M.bind fun d => asKN d o1 o) :=
  run_callD c W G hj hg hx hN hi hcs (o := fun d => asKN d o1 o) (fun d => by
    cases d with
    | none => exact .inr (.inl ⟨rfl, hr1⟩)
    | dict l => exact .inl ⟨l, rfl⟩
    | _ => exact .inr (.inr rfl)) (fun ct => by
    have e : asKN (encC ct) o1 o = asK (encC ct) o := by cases ct <;> rfl
    rw [e]
    unfold asK
    cases hd : decK (encC ct) with
    | none => exact .inl rfl
    | some kvs => rw [decK_enc hd]; exact .inr (hr kvs)) he hpl hs2
end
end Pu
/-! Pdc: new dicts as values: comprehensions whose keys are ints, texts or tuples of these. -/
namespace Pu
open PySem PySem.Spec PyProof.Rows L2 R
/-- φ in every block of a comprehension -/
abbrev InBlk (X : Cx) (scope : Scope) (φ : Cx → Prop) : Prop := ∀ (s0 : Shared) (H0 : Hp) (C : Addr) (cl : List (Str × Addr)) (fp : List Addr), φ (X.blk s0 H0 scope (compEnvC scope cl C X.env) fp)
section
variable {X : Cx} {pins : List (Addr × Obj)} {σ : L2.St} {H H' : Hp} {s : Shared}
/-- a store by a comprehension, whatever the keys are -/
theorem put_new {D : Addr} {y v : V} {u r : Value} {Q : Unit → Shared → Prop} {E : Value → Shared → Prop} (hu : X.A.units + 1 < cLine) (I : Inv X pins σ H s) (pt : DPut H D y v H') (ry : RelV y u) (rv : RelV v r)
    (q : ∀ z, Inv X pins σ H' z → Q () z) : wpAny (model X.prog X.w) X.A (dictSet D u r) Q E s := by
  rcases pt with ⟨kvs, k, eD, rfl, hz, rfl⟩ | ⟨kvs, k, b, eD, rfl, eb, hz, rfl⟩
  · have sz := length_putK kvs k v
    obtain ⟨z, hd, ws, rl, dd⟩ := dk_of I.hok eD
    refine wpAny_dictSet_pairs (hsz := by have := rl.length; omega) (kV_is ry) dd fun h2 d2 sb => q _ ?_
    obtain ⟨x, _, _, ex, _⟩ := id d2
    exact d_write I (by rw [eD]; trivial) sb ⟨x, ex⟩ (dk_new (by omega) hd (rl.put k rv) d2)
  · have sz := length_putK kvs k v
    have eu : u = Value.ref b := ry
    subst eu
    obtain ⟨z, hd, ws, rl, dd⟩ := dt_of I.hok eD
    refine wpAny_dictSet_heap (hsz := by have := Paired.length rl; omega) (show X.A.units < cLine from Nat.lt_of_succ_lt hu) (key_of I.hok eb) dd fun h2 d2 sb => q _ ?_
    obtain ⟨x, es, ep, ex, x2, x3, x4, _, x5⟩ := d2
    refine d_write I (by rw [eD]; trivial) sb ⟨x, ex⟩ ⟨by omega, hd, _, (rl.put k eb rv).keeps fun c ys ec => ?_, x, es, ep, ex, x2, x3, x4, x5⟩
    rw [upd_ne (ne_of ec eD fun z => nomatch z)]
    exact ec
/-- a new dict, to hold keys of the kind that u tells -/
theorem dict_laid {u : HO} (hu : u = .dK [] ∨ u = .dT []) (I : Inv X pins σ H s) : H s.heap.objs.size = none ∧ Inv X pins σ (upd H s.heap.objs.size u) { s with heap := s.heap.push { cls := .type "dict", data := .dict #[] } } := by
  refine ⟨I.hok.fresh (Nat.le_refl _), ?_⟩
  rcases hu with rfl | rfl
  · exact I.laid (t' := s.toks) (fun _ _ e => Heap.get?_push_of_some _ e) (Nat.le_refl _) (dk_empty s.heap I.big)
  · exact I.laid (t' := s.toks) (fun _ _ e => Heap.get?_push_of_some _ e) (Nat.le_refl _) (dt_empty s.heap I.big)
/-- {k: v for tg in iter if ..}: Dn the new dict, u what it is at first -/
def tDn (u : HO) (wi : TI) (g : TG) (tt : TT) (tk tv : TE) (own : List Nat) : TE := fun σ H Q => wi σ H fun J H1 => ∀ Dn, H1 Dn = none → ∃ In : Nat → Nat → Hp → Prop, (∃ m, In 0 m (upd H1 Dn u)) ∧ ∀ i m H2, In i m H2 →
  (J.stop i H2 ∧ Q (.ref Dn) H2) ∨ (J.go i H2 ∧ ∃ Nx : Hp → Prop, (∀ H3, Nx H3 → ∃ m', m' < m ∧ In (i + 1) m' H3) ∧ ∀ x H3, J.yld i H2 x H3 → g x (wipe σ own) H3 fun σ4 H4 => wipe σ4 own = wipe σ own ∧ tt σ4 H4 fun b H5 =>
    if b = true then tk σ4 H5 fun y H6 => tv σ4 H6 fun z H7 => ∃ H8, DPut H7 Dn y z H8 ∧ Nx H8 else Nx H5)
theorem pe_dn {u : HO} {kx vx tg iter : Expr} {ifs : List Expr} {scope : Scope} {own : List (Str × Nat)} {pos : Pos} {wi : TI} {g : TG} {tt : TT} {tk tv : TE} (hu0 : u = .dK [] ∨ u = .dT []) (hu : X.A.units + 1 < cLine) (hcalm : X.calm = true) (nd : X.N.Nodup) (hi : PI X tg iter wi) (bo : BlkOk X.N X.env.scope scope own)
    (hg : InBlk X scope fun Y => PG Y tg g) (ht : InBlk X scope fun Y => PTs Y ifs tt) (hk : InBlk X scope fun Y => PE Y kx tk) (hv : InBlk X scope fun Y => PE Y vx tv) (hfs : ∀ x, foldedSetIterable iter X.env x = pure x) :
    PE X (.DictComp kx vx [⟨tg, iter, ifs, 0⟩] scope pos) (tDn u wi g tt tk tv (own.map (·.2))) := by
  refine ⟨fun pins s σ H Q I h => ?_⟩
  rw [arm_eval_DictComp]
  have cells : ∀ n ∈ scope.names, n.2 = .free → ∃ c, X.env.cells.lookup n.1 = some c := fun n hn e => (bo.free n hn e).elim (fun z => I.ok.has _ (.inl z)) fun z => I.ok.has _ (.inr z)
  refine wpAny_comprehension_free rfl hfs (closure_ok cells) bo.kind (fun n hn e => by rw [bo.uniq n hn, e]) (thn (hi.run pins s σ H _ I h) fun _ s1 w1 => thn w1 fun _ s2 w2 => ?_)
  obtain ⟨it, fp, tn, J, H2, rfl, I2, T, t2, f2, q⟩ := w2
  refine wpAny_newObj_type (newEnv_comp ?_)
  obtain ⟨fresh, I3⟩ := dict_laid hu0 I2
  obtain ⟨In, ⟨m0, in0⟩, turn⟩ := q s2.heap.objs.size fresh
  generalize eD : s2.heap.objs.size = Dn at fresh I3 in0 turn ⊢
  generalize e3 : ({ s2 with heap := s2.heap.push { cls := .type "dict", data := .dict #[] } } : Shared) = s3 at I3
  have h3 : s3.heap = s2.heap.push { cls := .type "dict", data := .dict #[] } := by rw [← e3]
  have f3 : ∀ b ∈ fp, FpOk X pins (upd H2 Dn u) b ∧ b < s3.heap.objs.size := fun b hb => by
    obtain ⟨_, eb, _⟩ := T.obj _ _ t2 b hb
    have lt := Heap.lt_size eb
    refine ⟨⟨?_, (f2 b hb).2⟩, by rw [h3, Heap.size_push]; exact Nat.lt_succ_of_lt lt⟩
    rw [upd_ne (by rw [← eD]; exact Nat.ne_of_lt lt)]
    exact (f2 b hb).1
  have t3 : tn 0 s3.heap := T.keep _ _ _ t2 fun _ _ _ eb => by rw [h3]; exact Heap.get?_push_of_some _ eb
  have I4 := block_start I3 bo nd f3
  have p1 := hg s3 (upd H2 Dn u) s3.heap.objs.size (cellsFrom (s3.heap.objs.size + 1) scope.names (cloFrom X.env.cells scope.names [])) fp
  have p2 := ht s3 (upd H2 Dn u) s3.heap.objs.size (cellsFrom (s3.heap.objs.size + 1) scope.names (cloFrom X.env.cells scope.names [])) fp
  have p3 := hk s3 (upd H2 Dn u) s3.heap.objs.size (cellsFrom (s3.heap.objs.size + 1) scope.names (cloFrom X.env.cells scope.names [])) fp
  have p4 := hv s3 (upd H2 Dn u) s3.heap.objs.size (cellsFrom (s3.heap.objs.size + 1) scope.names (cloFrom X.env.cells scope.names [])) fp
  have t4 : tn 0 (pushCells (s3.heap.push { cls := .type "dict", data := .dict #[] }) scope.names) := T.keep _ _ _ t3 fun _ _ _ eb => pushCells_keeps _ _ _ _ (Heap.get?_push_of_some _ eb)
  show codeAny _ _ (.compStart _ 0 (.ref it) (.ref Dn) (compEnvC scope (cellsFrom (s3.heap.objs.size + 1) scope.names (cloFrom X.env.cells scope.names [])) s3.heap.objs.size X.env)) (compPost (model X.prog X.w) X.A X.xe none (EP X pins σ Q) (Value.ref Dn) s3.heap.objs.size) { s3 with heap := pushCells (s3.heap.push { cls := .type "dict", data := .dict #[] }) scope.names }
  generalize ec : compEnvC scope (cellsFrom (s3.heap.objs.size + 1) scope.names (cloFrom X.env.cells scope.names [])) s3.heap.objs.size X.env = env at I4 p1 p2 p3 p4 ⊢
  have eL : env.locals = s3.heap.objs.size := by rw [← ec]; rfl
  generalize eH : upd H2 Dn u = H3 at I3 I4 p1 p2 p3 p4 in0 f3
  generalize e5 : ({ s3 with heap := pushCells (s3.heap.push { cls := .type "dict", data := .dict #[] }) scope.names } : Shared) = s4 at I4 ⊢
  have t4 : tn 0 s4.heap := by rw [← e5]; exact t4
  have foot : ∀ {τ : L2.St} {K : Hp} {z : Shared}, Inv (X.blk s3 H3 scope env fp) [] τ K z → (∀ b ∈ fp, K b = none) → ∀ b ∈ fp, FpOk (X.blk s3 H3 scope env fp) [] K b := fun {τ K z} J n b hb =>
    ⟨n b hb, (J.ok.exf b hb).1, J.ok.exfs b hb, .inl hb, (J.ok.exf b hb).2, fun p hp => absurd (show p ∈ ([] : List (Addr × Obj)) ++ [] from hp) (by simp)⟩
  refine codeAny_compStart_dict ?G (T.self X.A 0 _ _ _ t4 ?G)
  refine compLoop_anyD (fun n z => ∃ i K, Inv (X.blk s3 H3 scope env fp) [] (wipe σ (own.map (·.2))) K z ∧ tn i z.heap ∧ (∀ b ∈ fp, K b = none) ∧ In i n K) ?_ m0 ⟨0, H3, I4, t4, fun b hb => (f3 b hb).1.1, in0⟩
  rintro n s5 ⟨i, H5, I5, t5, n5, in5⟩
  rcases turn i n H5 in5 with ⟨stop, fin⟩ | ⟨go, Nx, hNx, step⟩
  · refine thnF (T.done (X.blk s3 H3 scope env fp) rfl rfl rfl hcalm i [] s5 _ H5 (fun _ _ => False) I5 (foot I5 n5) t5 stop) fun r s6 ⟨er, I6⟩ => ?_
    subst er
    have out : Inv X pins σ H5 s6 := I3.call' (ch := fp) I6.os I6.base I6.hok I6.bare fun b hb => ⟨(f3 b hb).1.2.2.2.1, (f3 b hb).1.2.1, (f3 b hb).1.2.2.2.2.1, (f3 b hb).1.2.2.2.2.2⟩
    have free : H5 s3.heap.objs.size = none := by
      rw [← eL]
      exact I6.free
    obtain ⟨m, hm, _⟩ := I6.loc
    have hm : s6.heap.Ns env.locals m := hm
    rw [eL] at hm
    obtain ⟨a0, a1, a2, a3, a4, a5⟩ := I3.fpOk (H' := H5) (Nat.le_refl _) free
    exact ⟨m, hm, fun h7 sb => ⟨.ref Dn, H5, out.turned (t' := s6.toks) (fun b o hb e => (sb.2 b hb).trans e) a0 a1 a3 a4 a5, rfl, fin⟩⟩
  · refine thnF (T.item (X.blk s3 H3 scope env fp) rfl rfl rfl hcalm i [] s5 _ H5 (fun _ _ => False) I5 (foot I5 n5) t5 go) fun r s6 ⟨uv, er, w6⟩ => ?_
    subst er
    refine thnF w6 fun _ s7 ⟨x, H7, I7, r7, y7, t7, n7⟩ => thnF (p1.run _ s7 _ H7 x uv _ (I7.pinned (foot I7 n7) (T.obj _ _ t7)) r7 (step x H7 y7)) fun _ s8 ⟨σ8, H8, I8, hw8, w8⟩ => thnF (p2.run _ s8 σ8 H8 _ I8 w8) fun b s9 ⟨H9, I9, w9⟩ => ?_
    have len : (wipe σ (own.map (·.2))).length = σ8.length := by rw [← hw8, wipe_length]
    have next : ∀ {z : Shared} {K : Hp}, Inv (X.blk s3 H3 scope env fp) ([] ++ pinsAt fp s7.heap) σ8 K z → Nx K → ∃ m, m < n ∧ ∃ i K, Inv (X.blk s3 H3 scope env fp) [] (wipe σ (own.map (·.2))) K z ∧ tn i z.heap ∧ (∀ b ∈ fp, K b = none) ∧ In i m K := fun {z K} J nx => by
      obtain ⟨m', lt, inn⟩ := hNx K nx
      have stands : ∀ b ∈ fp, ∀ o, s7.heap.get? b = some o → z.heap.get? b = some o ∧ K b = none := fun b hb o e => by
        have := J.pin (b, o) (List.mem_append_right _ (List.mem_append_right _ (mem_pinsAt hb e)))
        exact ⟨this.1, this.2.1⟩
      refine ⟨m', lt, i + 1, K, (J.unpinned (pins := [])).weak len (fun j v e => (wipe_some (by rw [hw8]; exact e)).1), T.keep _ _ _ t7 fun b hb o e => (stands b hb o e).1, fun b hb => ?_, inn⟩
      obtain ⟨o, e, _⟩ := T.obj _ _ t7 b hb
      exact (stands b hb o e).2
    cases b with
    | false => exact next I9 w9
    | true => exact thnF (p3.run _ s9 σ8 H9 _ I9 w9) fun _ s10 ⟨ky, H10, I10, r10, w10⟩ => thnF (p4.run _ s10 σ8 H10 _ I10 w10) fun _ s11 ⟨vy, H11, I11, r11, H12, pt, nx⟩ => put_new (X := X.blk s3 H3 scope env fp) hu I11 pt r10 r11 fun _ I12 => next I12 nx
end
/-! ### over the layer -/
/-- a dict comprehension: tests, keys, values -/
def dcompR {A : Type} (put : A → D → D → R A) (cf : D → R Bool) (kf vf : D → R D) : List D → A → R A
  | [], acc => R.ret acc
  | x :: xs, acc => (nx (cf x)).bind fun b => if b = true then ((nx (kf x)).bind fun y => (nx (vf x)).bind fun z => (nx (put acc y z)).bind fun acc => dcompR put cf kf vf xs acc) else dcompR put cf kf vf xs acc
/-- how a store goes, whatever the keys are -/
def PutOk {A : Type} (mk : A → Ct) (put : A → D → D → R A) : Prop := ∀ (K : PySem.W.Frag) (B : Addr → Prop) (H : Hp) (a : Addr) (acc : A) (y z : D) (w v : V) (Q : A → Prop) (E : Nat → D → Prop),
  HasCt K B H a (mk acc) → B a → Rep K B H w y → Rep K B H v z → (put acc y z).wp Q E → ∃ acc' o, Q acc' ∧ DPut H a w v (upd H a o) ∧ HasCt K B (upd H a o) a (mk acc')
theorem stay_at {B : Addr → Prop} {H : Hp} {a : Addr} {o : HO} (hb : B a) : Stay B H (upd H a o) := fun b u eb nb => by
  rw [upd_ne fun z => nb (by rw [z]; exact hb)]
  exact eb
theorem putOk_k : PutOk .k dputK := by
  intro K B H a acc y z w v Q E hc hb ry rz q
  obtain ⟨vs, e, pr⟩ := hc
  unfold dputK at q
  cases ek : keyOf y with
  | none => rw [ek] at q; exact q.elim
  | some k =>
    rw [ek] at q
    obtain ⟨hz, q⟩ := wp_ite q
    rw [key_rep ry ek]
    exact ⟨_, _, q, DPut.k e (by rw [paired_length pr]; exact hz), _, upd_same, paired_put (paired_mono (fun _ _ z => ⟨z.1, z.2.stay (stay_at hb)⟩) pr) (rz.stay (stay_at hb))⟩
theorem putOk_t : PutOk .t dputT := by
  intro K B H a acc y z w v Q E hc hb ry rz q
  obtain ⟨vs, e, pr⟩ := hc
  unfold dputT at q
  cases ek : keysOf y with
  | none => rw [ek] at q; exact q.elim
  | some k =>
    rw [ek] at q
    obtain ⟨hz, q⟩ := wp_ite q
    cases y with
    | tuple ds =>
      obtain ⟨b, ws, rfl, h1, rr⟩ := ry.tuple
      have ew := keys_reps rr ek
      subst ew
      exact ⟨_, _, q, DPut.t e h1.1 (by rw [paired_length pr]; exact hz), _, upd_same, paired_put (paired_mono (fun _ _ z => ⟨z.1, z.2.stay (stay_at hb)⟩) pr) (rz.stay (stay_at hb))⟩
    | _ => cases ek
/-- e is a new dict, nobody else has it -/
def EvC (X : Cx) (wd : Wd) (ρ : List Sl) (e : Expr) {A : Type} (mk : A → Ct) (r : R A) : Prop := ∀ (F : Addr → Prop) (ad : Nat → Addr) (σ : L2.St) (H : Hp) (Q : VK), StOk X.K wd.dr F ρ σ H ad →
  r.wp (fun c => ∀ a H', Grow wd.dr H H' → H a = none → HasCt X.K (fun b => Ban F ρ ad b ∨ b = a) H' a (mk c) → Q (.ref a) H') (XP X wd F ρ ad H) → BE X e σ H Q
/-- a new dict has no entries -/
def NewU {A : Type} (mk : A → Ct) (u : HO) (acc : A) : Prop := (u = .dK [] ∨ u = .dT []) ∧ ∀ (K : PySem.W.Frag) (B : Addr → Prop) (H : Hp) (a : Addr), H a = some u → HasCt K B H a (mk acc)
theorem newU_k : NewU .k (.dK []) [] := ⟨.inl rfl, fun _ _ _ _ e => ⟨[], e, .nil⟩⟩
theorem newU_t : NewU .t (.dT []) [] := ⟨.inr rfl, fun _ _ _ _ e => ⟨[], e, .nil⟩⟩
theorem hasCt_obj {K : PySem.W.Frag} {B : Addr → Prop} {H : Hp} {a : Addr} {c : Ct} (h : HasCt K B H a c) : ∃ o, H a = some o ∧ ∀ xs, o ≠ HO.tup xs := by
  cases c with
  | l xs => obtain ⟨vs, e, _⟩ := h; exact ⟨_, e, fun _ z => nomatch z⟩
  | k kvs => obtain ⟨vs, e, _⟩ := h; exact ⟨_, e, fun _ z => nomatch z⟩
  | t kvs => obtain ⟨vs, e, _⟩ := h; exact ⟨_, e, fun _ z => nomatch z⟩
theorem hasCt_go {K : PySem.W.Frag} {B B' : Addr → Prop} {H H' : Hp} {a : Addr} {c : Ct} (h : HasCt K B H a c) (st : Stay B H H') (hb : ∀ b, B' b → B b) (ho : ∀ o, H a = some o → H' a = some o) : HasCt K B' H' a c :=
  h.mono (fun _ _ r => (r.stay st).weak hb) (fun _ _ r => (r.stay st).weak hb) ho
section
variable {CX : CXT} {k : Nat} {wd : Wd} {N : List Str} {sc : Scope} {X : Cx} {ρ : List Sl} {kx vx tg iter : Expr} {ifs : List Expr} {A : Type} {mk : A → Ct} {put : A → D → D → R A} {u : HO} {acc0 : A} {pos : Pos}
theorem dn_read {scope : Scope} {g : TG} {vs : List Nat} {st : D → Option (List Sl)} {cf : D → R Bool} {kf vf : D → R D} {r : R (List D)} (hu : NewU mk u acc0) (hp : PutOk mk put) (hi : EvJ X wd ρ tg iter r) (hgs : GS X.K wd.dr g vs (wipeS ρ vs) st) (hno : ∀ i ∈ vs, ¬ Own ρ i) (hek : LcEl X wd scope kx ifs st cf kf) (hev : LcEl X wd scope vx ifs st cf vf)
    (F : Addr → Prop) (ad : Nat → Addr) (σ : L2.St) (H : Hp) (Q : VK) (s : StOk X.K wd.dr F ρ σ H ad)
    (q : (r.bind fun ds => dcompR put cf kf vf ds acc0).wp (fun c => ∀ a H', Grow wd.dr H H' → H a = none → HasCt X.K (fun b => Ban F ρ ad b ∨ b = a) H' a (mk c) → Q (.ref a) H') (XP X wd F ρ ad H)) :
    tDn u (BI X tg iter) g (bT X scope ifs) (bE X scope kx) (bE X scope vx) vs σ H Q := by
  rw [wp_bind] at q
  refine hi F ad σ H _ s (wp_mono (fun ds q J H1 g1 hJ => ?_) (fun _ _ z => z) q)
  intro Dn hDn
  have hDn0 := free_grow s g1 hDn
  have s1 := s.grow g1
  generalize hF' : (fun b => F b ∨ b = Dn) = F'
  have FF : ∀ b, Ban F ρ ad b → Ban F' ρ ad b := by
    rintro b (z | z)
    · subst hF'; exact .inl (.inl z)
    · exact .inr z
  have FD : Ban F' ρ ad Dn := by subst hF'; exact .inl (.inr rfl)
  have FN : ∀ b, Ban F' ρ ad b → Ban F ρ ad b ∨ H1 b = none := by
    subst hF'
    rintro b ((b | rfl) | z)
    · exact .inl (.inl b)
    · exact .inr hDn
    · exact .inl (.inr z)
  have sF : ∀ {H' : Hp} {acc : A}, Grow wd.dr H1 H' → HasCt X.K (Ban F' ρ ad) H' Dn (mk acc) → StOk X.K wd.dr F' ρ σ H' ad := fun g e => by
    obtain ⟨o, eo, nt⟩ := hasCt_obj e
    subst hF'
    exact s1.newF hDn g eo nt
  obtain ⟨Vd, v0, vS, vG, vY, vE⟩ := hJ (Ban F' ρ ad) FN FF
  have gD : ∀ {o}, Grow wd.dr H1 (upd H1 Dn o) := fun {o} => Grow.same (same_upd hDn)
  have dne : ¬ Has wd.dr Dn := fun z => by
    obtain ⟨o, e, _⟩ := s1.banned (s1.drF z)
    rw [hDn] at e; cases e
  generalize hIn : (fun (i : Nat) (H' : Hp) => Grow wd.dr H1 H' ∧ Vd H' ∧ ∃ acc, HasCt X.K (Ban F' ρ ad) H' Dn (mk acc) ∧
      (dcompR put cf kf vf (ds.drop i) acc).wp (fun c => ∀ a H', Grow wd.dr H H' → H a = none → HasCt X.K (fun b => Ban F ρ ad b ∨ b = a) H' a (mk c) → Q (.ref a) H') (XP X wd F ρ ad H)) = In
  refine ⟨fun i m H' => m = ds.length - i ∧ i ≤ ds.length ∧ In i H', ⟨ds.length, rfl, Nat.zero_le _, by subst hIn; exact ⟨gD, vS _ _ v0 gD, acc0, hu.2 _ _ _ _ upd_same, q⟩⟩, ?_⟩
  rintro i m H' ⟨rfl, hi', hI⟩
  have hI' := hI
  rw [← hIn] at hI'
  obtain ⟨g2, vd, acc, hD, q⟩ := hI'
  by_cases hlt : i < ds.length
  · refine .inr ⟨vG _ _ vd hlt, In (i + 1), fun H'' z => ⟨ds.length - (i + 1), by omega, rfl, hlt, z⟩, ?_⟩
    intro x H'' y
    obtain ⟨sm, rx⟩ := vY _ _ _ _ ds[i] vd y (List.getElem?_eq_getElem hlt)
    have g3 : Grow wd.dr H1 H'' := g2.trans (Grow.same sm)
    have hD3 : HasCt X.K (Ban F' ρ ad) H'' Dn (mk acc) := hasCt_go hD (same_stay sm) (fun _ z => z) fun o e => sm _ _ e
    have s3r : StOk X.K wd.dr F' ρ σ H'' ad := sF g3 hD3
    have s3 : StOk X.K wd.dr F' (wipeS ρ vs) (wipe σ vs) H'' ad := s3r.wiped
    have wb : ∀ b, Ban F' (wipeS ρ vs) ad b → Ban F' ρ ad b := by
      rintro b (b | ⟨i, o, e⟩)
      · exact .inl b
      · exact .inr ⟨i, wipeS_own o, e⟩
    rw [List.drop_eq_getElem_cons hlt] at q
    have vd3 := vS _ _ vd (Grow.same sm)
    unfold dcompR at q
    rw [wp_bind] at q
    cases est : st ds[i] with
    | none => rw [hek.no _ est] at q; exact q.elim
    | some ρ' =>
      refine hgs F' ad _ H'' x ds[i] ρ' _ s3 (rx.weak wb) est fun σ' s' ho2 ho w => ⟨by rw [w, wipe_idem vs vs fun _ h => h], ?_⟩
      have hB : ∀ b, Ban F' ρ ad b → Ban F' ρ' ad b := by
        rintro b (b | ⟨j, o, e⟩)
        · exact .inl b
        · have hj : j ∉ vs := fun z => hno j z o
          exact .inr ⟨j, ho2 j (own_wipeS hj o) hj, e⟩
      have key : ∀ (b : Bool) (H3 : Hp), Grow wd.dr H'' H3 → (if b = true then ((nx (kf ds[i])).bind fun y => (nx (vf ds[i])).bind fun z => (nx (put acc y z)).bind fun acc => dcompR put cf kf vf (ds.drop (i + 1)) acc) else dcompR put cf kf vf (ds.drop (i + 1)) acc).wp (fun c => ∀ a H', Grow wd.dr H H' → H a = none → HasCt X.K (fun b => Ban F ρ ad b ∨ b = a) H' a (mk c) → Q (.ref a) H') (XP X wd F ρ ad H) →
          (if b = true then bE X scope kx σ' H3 fun y H4 => bE X scope vx σ' H4 fun z H5 => ∃ H6, DPut H5 Dn y z H6 ∧ In (i + 1) H6 else In (i + 1) H3) := by
        intro b H3 g4 q
        have hD4 : HasCt X.K (Ban F' ρ ad) H3 Dn (mk acc) := hasCt_go hD3 (s3r.stays g4) (fun _ z => z) fun o e => g4.keep _ _ e dne
        cases b with
        | false => subst hIn; exact iteF ⟨g3.trans g4, vS _ _ vd3 g4, acc, hD4, q⟩
        | true =>
          refine iteT fun s0 H0 C cl fp => ?_
          have q : ((nx (kf ds[i])).bind fun y => (nx (vf ds[i])).bind fun z => (nx (put acc y z)).bind fun acc => dcompR put cf kf vf (ds.drop (i + 1)) acc).wp _ _ := q
          rw [wp_bind] at q
          refine hek.el ds[i] ρ' est s0 H0 C cl fp F' ad σ' H3 _ (s'.grow g4) (xp_false (wp_nx (E := fun _ _ => False) ?_))
          refine wp_nx' (E := XP X wd F ρ ad H) (wp_mono (fun y q w H4 g5 rw_ => ?_) (fun _ _ z => z) q)
          intro s0 H0 C cl fp
          rw [wp_bind] at q
          have s5 := (s'.grow g4).grow g5
          refine hev.el ds[i] ρ' est s0 H0 C cl fp F' ad σ' H4 _ s5 (xp_false (wp_nx (E := fun _ _ => False) ?_))
          refine wp_nx' (E := XP X wd F ρ ad H) (wp_mono (fun z q v H5 g6 rv => ?_) (fun _ _ z => z) q)
          have hD5 : HasCt X.K (Ban F' ρ ad) H4 Dn (mk acc) := hasCt_go hD4 ((s3r.grow g4).stays g5) (fun _ z => z) fun o e => g5.keep _ _ e dne
          have hD6 : HasCt X.K (Ban F' ρ ad) H5 Dn (mk acc) := hasCt_go hD5 (((s3r.grow g4).grow g5).stays g6) (fun _ z => z) fun o e => g6.keep _ _ e dne
          have rw6 : Rep X.K (Ban F' ρ ad) H5 w y := (rw_.stay (s5.stays g6)).weak hB
          rw [wp_bind] at q
          obtain ⟨acc', o, q, pt, hD7⟩ := hp X.K (Ban F' ρ ad) H5 Dn acc y z w v _ (fun _ _ => False) hD6 FD rw6 (rv.weak hB) (wp_nx q)
          have g7 : Grow wd.dr H1 (upd H5 Dn o) := (g3.trans (g4.trans (g5.trans g6))).updNew hDn
          refine ⟨_, pt, ?_⟩
          subst hIn
          exact ⟨g7, vS _ _ v0 g7, acc', hD7, q⟩
      cases ifs with
      | nil =>
        have et := hek.ts ds[i] ρ' est
        simp only at et
        rw [et] at q
        exact key true H'' (Grow.refl _ _) q
      | cons t ts =>
        intro s0 H0 C cl fp
        refine hek.ts ds[i] ρ' est s0 H0 C cl fp F' ad σ' H'' _ s' (xp_false (wp_nx (E := fun _ _ => False) (wp_nx' (E := XP X wd F ρ ad H) (wp_mono (fun b q H3 g4 => key b H3 g4 q) (fun _ _ z => z) q))))
  · have e : i = ds.length := by omega
    subst e
    rw [List.drop_length] at q
    exact .inl ⟨vE _ vd, q _ _ (g1.trans g2) hDn0 (hD.weak fun b z => by
      rcases z with z | rfl
      · exact FF _ z
      · exact FD)⟩
theorem evc_dcomp [Calm wd] (c : Cw CX k wd N sc X) {scope : Scope} {own : List (Str × Nat)} {g : TG} {st : D → Option (List Sl)} {cf : D → R Bool} {kf vf : D → R D} {r : R (List D)} (hu : NewU mk u acc0) (hp : PutOk mk put) (hok : blkC N sc scope own = true) (hg : BlkG X scope tg g) (hgs : GS X.K wd.dr g (own.map (·.2)) (wipeS ρ (own.map (·.2))) st) (hno : ∀ i ∈ own.map (·.2), ¬ Own ρ i)
    (hi : EvJ X wd ρ tg iter r) (hl : ifs.length ≤ 1) (hek : LcEl X wd scope kx ifs st cf kf) (hev : LcEl X wd scope vx ifs st cf vf) (hs : ∀ x, foldedSetIterable iter X.env x = pure x) : EvC X wd ρ (.DictComp kx vx [⟨tg, iter, ifs, 0⟩] scope pos) mk (r.bind fun ds => dcompR put cf kf vf ds acc0) := fun F ad σ H Q s q =>
  be (pe_dn (own := own) hu.1 c.u1 c.calm (by rw [c.hN]; exact c.nd) pi_b (by rw [c.hN, c.hs]; exact blkOk_by hok) hg (bT_pts hl) bE_pe bE_pe hs) (dn_read hu hp hi hgs hno hek hev F ad σ H Q s q)
variable {x y z : Str} {i j l : Nat} {px py pz pt p : Pos} {sl sl2 sl3 : Sl}
/-- {k: v for x, y, z in iter}, keys tuples -/
theorem evc_dcT3 [Calm wd] (c : Cw CX k wd N sc X) {scope : Scope} {kf vf : D → D → D → R D} {r : R (List D)} {kt : Nat} (hu : NewU mk u acc0) (hp : PutOk mk put) (hok : blkC N sc scope [(x, i), (y, j), (z, l)] = true) (hN : N[i]? = some x) (hx : tgB scope sc x = true) (hN2 : N[j]? = some y) (hy : tgB scope sc y = true) (hN3 : N[l]? = some z) (hz : tgB scope sc z = true) (hno : ρ[i]? = some sl) (hsl : sl.own = false) (hno2 : ρ[j]? = some sl2) (hsl2 : sl2.own = false) (hno3 : ρ[l]? = some sl3) (hsl3 : sl3.own = false)
    (hi : EvJ X wd ρ (.Tuple [.Name x px, .Name y py, .Name z pz] kt pt) iter r) (hek : ∀ a b d s0 H0 C cl fp, Ev (X.blk s0 H0 scope (compEnvC scope cl C X.env) fp) wd.calm ((((wipeS ρ [i, j, l]).set i (.d a)).set j (.d b)).set l (.d d)) kx (kf a b d)) (hev : ∀ a b d s0 H0 C cl fp, Ev (X.blk s0 H0 scope (compEnvC scope cl C X.env) fp) wd.calm ((((wipeS ρ [i, j, l]).set i (.d a)).set j (.d b)).set l (.d d)) vx (vf a b d)) (hs : ∀ x, foldedSetIterable iter X.env x = pure x := by exact fun _ => rfl) :
    EvC X wd ρ (.DictComp kx vx [⟨.Tuple [.Name x px, .Name y py, .Name z pz] kt pt, iter, [], 0⟩] scope pos) mk (r.bind fun ds => dcompR put isT3 (fun d => unp3 d kf) (fun d => unp3 d vf) ds acc0) :=
  evc_dcomp c (own := [(x, i), (y, j), (z, l)]) hu hp hok (blkg_tup3 c (blkg_name c hN hx) (blkg_name c hN2 hy) (blkg_name c hN3 hz)) (gs_tup (ρ := wipeS ρ [i, j, l]) (is := [i, j, l])) (fun u hu => by
    simp only [List.map_cons, List.map_nil, List.mem_cons, List.not_mem_nil, or_false] at hu
    rcases hu with rfl | rfl | rfl
    · exact not_own hno hsl
    · exact not_own hno2 hsl2
    · exact not_own hno3 hsl3) hi (Nat.zero_le _) ⟨fun d e => isT3_no e, fun d ρ' e => by obtain ⟨a, b, d, rfl, rfl⟩ := stT3 e; exact hek a b d, fun d ρ' e => isT3_of e⟩
    ⟨fun d e => isT3_no e, fun d ρ' e => by obtain ⟨a, b, d, rfl, rfl⟩ := stT3 e; exact hev a b d, fun d ρ' e => isT3_of e⟩ hs
variable {S B : Type} {eS : S → List Sl} {eB : B → List Sl} {e : Expr} {rc : R A}
/-- return a new dict -/
theorem run_retN' (c : Cd CX k wd N sc X) (ho : wd.own = true) (h : EvC X wd ρ e mk rc) : Run X wd eS eB (fun _ : Unit => []) ρ [.Return (some e) pos] (rc.bind fun a => R.ret (.rt (encC (mk a)) ()) : R (Out S B Unit)) := fun F ad σ H Dn st q => by
  refine bss (pss_one (ps_ret pe_b)) ?_
  rw [wp_bind] at q
  refine h F ad σ H _ st (wp_mono (fun c' q a H' g ha hc => ?_) (fun _ _ z => z.xp st) q)
  have nb : ¬ Ban F ρ ad a := fun z => by
    obtain ⟨o, eo, _⟩ := st.banned z
    rw [ha] at eo; cases eo
  refine q (.ref a) ad ρ σ H' (.grow g) (st.grow g) (fun j s ej => by simp at ej) (.inr ⟨ho, [a], by simp, fun b hb => ?_, .one (hc.weak fun b z => ?_)⟩)
  · have : b = a := by simpa using hb
    subst this
    exact ⟨nb, fun z => nb (st.drF z), .inr ha⟩
  · exact z.imp id fun z => by simpa using z
end
end Pu
/-! Prv: a tuple's [::-1]. -/
namespace Pu
open PySem PySem.Spec PyProof.Rows L2 R
section
variable {prog : Program} {w : World} {A : Around} {E : Value → Shared → Prop} {s : Shared}
theorem rev_adjust (n : Nat) : Builtin.Slice.sliceAdjust none none (-1) (n : Int) = ((n : Int) - 1, -1) := rfl
theorem rev_places (n : Nat) : Builtin.Slice.slicePlaces ((n : Int) - 1) (-1) (-1) = n := by
  unfold Builtin.Slice.slicePlaces
  rw [if_neg (by decide)]
  cases n with
  | zero => rfl
  | succ n =>
    rw [if_pos (show ((n + 1 : Nat) : Int) - 1 > -1 by omega), show (-(-1) : Int) = 1 from rfl, Int.ediv_one]
    omega
theorem rev_pick (xs : List Value) : (List.range xs.length).filterMap (fun (k : Nat) => xs.toArray[(((xs.length : Int) - 1) + (k : Int) * (-1)).toNat]?) = xs.reverse := by
  have e : (List.range xs.length).filterMap (fun (k : Nat) => xs.toArray[(((xs.length : Int) - 1) + (k : Int) * (-1)).toNat]?) = (List.range xs.length).filterMap fun k => xs.reverse[k]? := by
    have : ∀ l : List Nat, (∀ k ∈ l, k < xs.length) → l.filterMap (fun (k : Nat) => xs.toArray[(((xs.length : Int) - 1) + (k : Int) * (-1)).toNat]?) = l.filterMap fun k => xs.reverse[k]? := by
      intro l
      induction l with
      | nil => intro _; rfl
      | cons k l ih =>
        intro h
        have hk := h k List.mem_cons_self
        have e1 : xs.toArray[(((xs.length : Int) - 1) + (k : Int) * (-1)).toNat]? = xs.reverse[k]? := by
          rw [List.getElem?_reverse hk, show (((xs.length : Int) - 1) + (k : Int) * (-1)).toNat = xs.length - 1 - k by omega]
          simp
        rw [List.filterMap_cons, List.filterMap_cons, e1, ih fun j hj => h j (List.mem_cons_of_mem _ hj)]
    exact this _ fun k hk => List.mem_range.mp hk
  rw [e]
  have f : ∀ ys : List Value, (List.range ys.length).filterMap (fun k => ys[k]?) = ys := by
    intro ys
    have : ∀ (n : Nat), n ≤ ys.length → (List.range n).filterMap (fun k => ys[k]?) = ys.take n := by
      intro n
      induction n with
      | zero => intro _; simp
      | succ n ih =>
        intro hn
        rw [List.range_succ, List.filterMap_append, ih (by omega), List.take_succ_eq_append_getElem (by omega)]
        congr 1
        rw [List.filterMap_cons, List.getElem?_eq_getElem (by omega)]
        rfl
    rw [this _ (Nat.le_refl _), List.take_length]
  have := f xs.reverse
  rw [List.length_reverse] at this
  exact this
theorem get_rev {t sl : Addr} {xs : List Value} {vl vu vs : Value} {Q : Value → Shared → Prop} (ht : PyProof.Rows.IsTup s.heap t xs.toArray) (hs : s.heap.IsSliceOf sl vl vu vs) (pl : IsPart vl none) (pu : IsPart vu none) (ps : IsPart vs (some (-1)))
    (h : Q (.ref s.heap.objs.size) { s with heap := s.heap.push { cls := .type "tuple", data := .seq xs.reverse.toArray } }) (hsz : xs.length ≤ sizeLine) : wpAny (model prog w) A (getItem (.ref t) (.ref sl)) Q E s := by
  have fits : sizeOk (.seq xs.reverse.toArray) := by show xs.reverse.toArray.size ≤ sizeLine; simpa using hsz
  obtain ⟨os, e1, e2, e3⟩ := id hs
  have tS : s.TypeIs (.ref sl) "slice" := ⟨os, e1, e2⟩
  unfold getItem
  (try with_reducible refine wpAny_holding ?_); (first | refine wpAny_bind (wpAny_pure ?_) | skip)
  refine wpAny_bind (wpAny_sequenceKey ht.typeIs (by decide) (wpAny_bind (wpAny_callSpecial?_slot (name := Str.ofString "__getitem__") ht.typeIs PyProof.Rows.slot_tuple_getitem (wpAny_call_entry PyProof.Rows.slot_tuple_getitem ht.typeIs PyProof.Rows.entry_tuple_getitem ?_ (PyProof.Rows.args_tuple_getitem _ _)))))
  show wpAny _ _ (Builtin.Tuple.tupleItemsOf (.ref t) >>= _) _ _ s
  refine wpAny_bind (PyProof.Rows.tupleItemsOf_ ht (wpAny_bind (wpAny_typeOf tS ?_)))
  rw [if_pos (by decide)]
  refine wpAny_bind ?_
  unfold Builtin.Slice.sliceApplied Builtin.Slice.sliceFields
  refine wpAny_bind (wpAny_bind (wpAny_field e1 e3 (x := vl) rfl (wpAny_bind (wpAny_field e1 e3 (x := vu) rfl (wpAny_bind (wpAny_field e1 e3 (x := vs) rfl (wpAny_pure (wpAny_bind (HT.slicePart_ ps ?_)))))))))
  show wpAny _ _ (if ((-1 : Int) == 0) = true then _ else _) _ _ s
  rw [if_neg (by decide)]
  refine wpAny_bind (HT.slicePart_ pl (wpAny_bind (HT.slicePart_ pu (wpAny_bind (wpAny_pure ?_)))))
  show wpAny _ _ (match Builtin.Slice.sliceAdjust none none (-1) ((xs.toArray.size : Nat) : Int) with | (lo, hi) => pure (lo, (-1 : Int), Builtin.Slice.slicePlaces lo hi (-1))) _ _ s
  rw [rev_adjust]
  show wpAny _ _ (pure (((xs.toArray.size : Nat) : Int) - 1, (-1 : Int), Builtin.Slice.slicePlaces (((xs.toArray.size : Nat) : Int) - 1) (-1) (-1))) _ _ s
  rw [rev_places, List.size_toArray]
  refine wpAny_pure ?_
  have no : ¬ ((((xs.length : Nat) : Int) - 1 == 0 && (-1 : Int) == 1 && xs.length == xs.toArray.size) = true) := by
    rw [show ((-1 : Int) == 1) = false from rfl, Bool.and_false, Bool.false_and]
    exact Bool.false_ne_true
  show wpAny _ _ (if (((xs.length : Nat) : Int) - 1 == 0 && (-1 : Int) == 1 && xs.length == xs.toArray.size) = true then _ else _) _ _ s
  rw [if_neg no, rev_pick]
  first
    | exact wpAny_bind (m := Builtin.Tuple.tupleExact _) (wpAny_newObj_type (wpAny_pure ⟨_, rfl, wpAny_pure h⟩) fits)
    | exact wpAny_bind (m := Builtin.Tuple.tupleExact _) (wpAny_newObj_type (wpAny_bind (wpAny_pure (wpAny_pure ⟨_, rfl, wpAny_pure h⟩))) fits)
    | exact wpAny_bind (wpAny_bind (m := Builtin.Tuple.tupleExact _) (wpAny_newObj_type (wpAny_pure (wpAny_pure ⟨_, rfl, wpAny_pure h⟩)) fits))
    | exact wpAny_bind (wpAny_bind (m := Builtin.Tuple.tupleExact _) (wpAny_newObj_type (wpAny_pure ⟨_, rfl, wpAny_pure h⟩) fits))
end
section
variable {X : Cx}
/-- t[::-1] -/
def tRevT (K : PySem.W.Frag) (te : TE) : TE := fun σ H Q => te σ H fun x H1 => ∃ a xs, x = .ref a ∧ SqT K H1 a xs ∧ ∀ p, H1 p = none → Q (.ref p) (upd H1 p (.tup xs.reverse))
theorem pe_revT {e : Expr} {te : TE} {k : Nat} {p1 p2 p3 pos : Pos} (he : PE X e te) : PE X (.Subscript e (.Slice none none (some (.UnaryOp .USub (.Constant (.int 1) k p1) p2)) p3) pos) (tRevT X.K te) := by
  refine ⟨fun pins s σ H Q I h => Subscript_ (thn (he.run pins s σ H _ I h) fun v s1 ⟨x, H1, I1, r1, a, xs, ex, hx, q⟩ => ?_)⟩
  subst ex
  cases r1
  have st : PO X (some (.UnaryOp .USub (.Constant (.int 1) k p1) p2)) (tPart (tUn (rU fun i => .int (-i)) (tC (.int 1)))) := po_some (pe_un un_neg pe_int)
  refine wpAny_Slice (thn (po_none.run pins s1 σ H1 (fun o H2 => o = none ∧ H2 = H1) I1 ⟨rfl, rfl⟩) fun vl s2 ⟨l, H2, I2, pl, e1, e2⟩ => thn (po_none.run pins s2 σ H2 (fun o H3 => o = none ∧ H3 = H2) I2 ⟨rfl, rfl⟩) fun vu s3 ⟨u, H3, I3, pu, e3, e4⟩ =>
    thn (st.run pins s3 σ H3 (fun o H4 => o = some (-1) ∧ H4 = H3) I3 ⟨1, rfl, -1, rfl, rfl, rfl⟩) fun vs s4 ⟨o, H4, I4, ps, e5, e6⟩ => ?_)
  subst e1 e2 e3 e4 e5 e6
  have I5 := I4.kept (t' := s4.toks) (h' := s4.heap.push { cls := .type "slice", data := .fields #[vl, vu, vs] }) fun b ob q => Heap.get?_push_of_some _ q
  obtain ⟨its, r, ht, hz⟩ := I5.tuple hx
  have hl := r.length
  show wpAny _ X.A (subscriptTail e (.Slice none none (some (.UnaryOp .USub (.Constant (.int 1) k p1) p2)) p3) (.ref a) (.ref s4.heap.objs.size)) (EP X pins σ Q) X.xe { s4 with heap := s4.heap.push { cls := .type "slice", data := .fields #[vl, vu, vs] } }
  refine tail_any (ops := [.ref a, .ref s4.heap.objs.size]) ht.typeIs PyProof.Rows.slot_tuple_getitem.lookup (get_rev ht (Heap.IsSliceOf.new _ vl vu vs) pl pu ps ?_ (by omega)) (by with_unfolding_all rfl)
  exact ⟨.ref _, _, I5.laid (t' := s4.toks) (o := .tup xs.reverse) (fun b ob q => Heap.get?_push_of_some _ q) (Nat.le_refl _) ⟨by rw [List.length_reverse]; exact hz, _, r.reverse, PyProof.Rows.IsTup.new _ _⟩, rfl, q _ (I5.hok.fresh (Nat.le_refl _))⟩
end
def revR : D → R D
  | .tuple xs => R.ret (.tuple xs.reverse)
  | _ => bad
section
variable {X : Cx} {wd : Wd} {ρ : List Sl} {a : Expr} {ra : R D}
theorem Reps.rev {K : PySem.W.Frag} {B : Addr → Prop} {H : Hp} : ∀ {ds : List D} {vs : List V}, Reps K B H vs ds → Reps K B H vs.reverse ds.reverse
  | [], _, h => by cases h; exact .nil
  | d :: ds, _, h => by
    cases h with
    | cons r t => rw [List.reverse_cons, List.reverse_cons]; exact t.rev.append (.cons r .nil)
theorem ev_revT {k : Nat} {p1 p2 p3 pos : Pos} (ha : EvB X wd ρ a ra) : Ev X wd ρ (.Subscript a (.Slice none none (some (.UnaryOp .USub (.Constant (.int 1) k p1) p2)) p3) pos) (ra.bind fun x => revR x) := fun F ad σ H Q s q => by
  refine be (pe_revT pe_b) ?_
  rw [wp_bind] at q
  refine ha F ad σ H _ s (wp_mono (fun d q v H1 g1 r1 => ?_) (fun _ _ z => z) q)
  have s1 := s.grow g1
  cases d with
  | tuple ds =>
    obtain ⟨l, vs, rfl, e, rr⟩ := r1.tuple
    exact ⟨l, vs, rfl, e.sq, fun p hp => q _ _ (g1.trans (Grow.same (same_upd hp))) (newtup (fun b z => s1.banned z) hp rr.rev)⟩
  | _ => exact q.elim
end
end Pu
/-! Psk: sorted(xs, key=f), f a def of the program. -/
namespace PySem.W
open PySem PySem.Calls PyProof.Rows
section
variable {prog : Program} {w : World} {A : Around} {E : Value → Shared → Prop} {s : Shared} {a kS : Addr} {b : Bool} {vs : List Value} {keys : Array Value} {e e1 : Nat} {P : PySem.Fin → Shared → Prop}
theorem key_tailC {st : SortSt} {out : List Value} (nk : s.heap.get? kS = some (seqObj "list" keys e)) (na : s.heap.get? a = some (seqObj "list" #[] e1)) (hka : kS ≠ a)
    (hsz : keys.size ≤ sizeLine) (hz : out.length ≤ sizeLine) (hfl : failedOf st = none) (ho : (if b = true then ((arrOf st).map (·.2)).reverse else (arrOf st).map (·.2)) = out.toArray)
    (h : P (.done (.ret .none)) { s with heap := (s.heap.update kS (Obj.mapSeq fun _ => #[])).update a (Obj.mapSeq fun _ => out.toArray) }) :
    wpAny (model prog w) A (ksk_tail a b e1 (.ref kS) st) P E s := by
  have s1 := Heap.SameBut.update s.heap kS (Obj.mapSeq fun _ => (#[] : Array Value))
  have na1 : (s.heap.update kS (Obj.mapSeq fun _ => (#[] : Array Value))).get? a = some (seqObj "list" #[] e1) := (s1.2 a hka.symm).trans na
  unfold ksk_tail
  try dsimp only
  refine wpAny_bind (listUpdate_at nk rfl ?_ hsz (Nat.zero_le _))
  refine wpAny_bind (wpAny_letGo ?_)
  refine wpAny_bind (seqEpoch_at na1 rfl ?_)
  rw [ho]
  refine wpAny_bind (listUpdate_at na1 rfl ?_ (Nat.zero_le _) (by rw [List.size_toArray]; exact Nat.le_succ_of_le hz))
  rw [hfl]
  simp only [bne_self_eq_false, Bool.false_eq_true, if_false]
  exact wpAny_pure h
theorem key_endC {κ : PyProof.Rows.KeyKind} (nk : s.heap.get? kS = some (seqObj "list" keys e)) (na : s.heap.get? a = some (seqObj "list" #[] e1)) (hka : kS ≠ a)
    (S : SortsAt prog w A s κ keys.toList) (hsz : keys.size = vs.length) (hZ : vs.length ≤ sizeLine)
    (h : P (.done (.ret .none)) { s with heap := (s.heap.update kS (Obj.mapSeq fun _ => #[])).update a (Obj.mapSeq fun _ => (sortVals κ b keys.toList vs).toArray) }) :
    wpAny (model prog w) A (ksk_end a b vs.toArray e1 (.ref kS) keys) P E s := by
  obtain ⟨kd, h1, h2⟩ := S.kind
  have hkl : keys.toList.length = vs.length := by
    rw [Array.length_toList]
    exact hsz
  have hK : PyProof.Rows.KeysOf κ (keys.zip vs.toArray) := keysOf_zip S.keys
  have hol : (sortVals κ b keys.toList vs).length = vs.length := sortVals_length b hkl
  have hstart : (if b = true then (keys.zip vs.toArray).reverse else keys.zip vs.toArray).Perm (keys.zip vs.toArray) := by
    cases b with
    | false => exact Array.Perm.refl _
    | true => exact Array.perm_iff_toList_perm.mpr (by rw [if_pos rfl, Array.toList_reverse]; exact List.reverse_perm _)
  have hss : (if b = true then (keys.zip vs.toArray).reverse else keys.zip vs.toArray).size = vs.length := by rw [hstart.size_eq, Array.size_zip, hsz, List.size_toArray, Nat.min_self]
  have fin : ∀ st' : SortSt, (arrOf st').Perm (if b = true then (keys.zip vs.toArray).reverse else keys.zip vs.toArray) → SortedToK κ (arrOf st') (if b = true then (keys.zip vs.toArray).reverse else keys.zip vs.toArray).size →
      Stable κ (arrOf st') (if b = true then (keys.zip vs.toArray).reverse else keys.zip vs.toArray) → (if b = true then ((arrOf st').map (·.2)).reverse else (arrOf st').map (·.2)) = (sortVals κ b keys.toList vs).toArray := by
    intro st' hp hs ht
    have e := sort_out (rev := b) (keys := keys) (items := vs.toArray) (xs := arrOf st') (κ := κ) hK hp hs ht
    have e' := congrArg List.toArray e
    rw [Array.toArray_toList] at e'
    exact e'
  have step : ∀ t : Sem PySem.Fin, wpAny (model prog w) A t P E s → wpAny (model prog w) A (if b = true then (do let _ ← rule "list.sort.reverse"; t) else t) P E s := by
    intro t ht
    split
    · exact wpAny_bind (wpAny_rule ht)
    · exact ht
  unfold ksk_end
  try dsimp only
  refine step _ ?_
  by_cases hl2 : vs.toArray.size < 2
  · rw [if_pos hl2, if_pos hl2]
    refine wpAny_bind (wpAny_pure ?_)
    rw [StateT.run_pure]
    refine wpAny_bind (wpAny_pure ?_)
    try dsimp only
    refine key_tailC (st := SortSt.mk' general' (if b = true then (keys.zip vs.toArray).reverse else keys.zip vs.toArray) #[] 7 none) nk na hka (by rw [hsz]; exact hZ) (by rw [hol]; exact hZ) rfl (fin _ (Array.Perm.refl _) ?_ (Stable.refl _)) h
    intro i j hij hj
    rw [hss] at hj
    rw [List.size_toArray] at hl2
    have : i = j := by omega
    subst this
    exact KeyOrd.kle_refl _
  · rw [if_neg hl2, if_neg hl2]
    rw [List.size_toArray] at hl2
    refine wpAny_bind (h2 (by omega) _ ?_)
    refine wpAny_bind (wpAny_mono (H.wpS_sortRunsSt (κ := κ) (kd := kd) (a₀ := if b = true then (keys.zip vs.toArray).reverse else keys.zip vs.toArray)
      (st := SortSt.mk' kd (if b = true then (keys.zip vs.toArray).reverse else keys.zip vs.toArray) #[] 7 none)
      (Q := fun _ st' => failedOf st' = none ∧ (if b = true then ((arrOf st').map (·.2)).reverse else (arrOf st').map (·.2)) = (sortVals κ b keys.toList vs).toArray)
      h1 (hK.perm hstart) ⟨Array.Perm.refl _, rfl, rfl⟩ rfl (Stable.refl _) (by rw [hss]; omega) fun st' a1 a2 a3 a4 => ⟨a2, fin st' a1 a3 a4⟩) ?_ fun _ _ e => e)
    rintro ⟨⟨⟩, st'⟩ s' ⟨rfl, hf, ho⟩
    try dsimp only at ho ⊢
    exact key_tailC nk na hka (by rw [hsz]; exact hZ) (by rw [hol]; exact hZ) hf ho h
end
end PySem.W
namespace Pu
open PySem PySem.Spec PyProof.Rows L2 R
section
variable {X : Cx} {pins : List (Addr × Obj)} {σ : L2.St} {H : Hp} {s : Shared} {h' : Heap}
/-- records of ours have turned, one of them is tracked from here on -/
theorem inv_track {t' : Nat} {ch : List Addr} {T : Addr} {ob : HO} (I : Inv X pins σ H s) (k : ∀ b o, b ∉ ch → s.heap.get? b = some o → h'.get? b = some o) (hf : ∀ b ∈ ch, H b = none ∧ FbM.Rec X pins b) (hT : T ∈ ch)
    (new : ObjOk X.prog X.w (upd H T ob) h' T ob) : Inv X pins σ (upd H T ob) { s with heap := h', toks := t' } := by
  have hn : H T = none := (hf T hT).1
  have nit : ∀ b u, H b = some u → b ∉ ch := fun b u e z => by
    have q := (hf b z).1
    rw [q] at e; cases e
  refine I.step (g' := s.gens) (d' := s.drawn) (ch := ch) (fun b hb => ⟨.inr (hf b hb).2.ge, (hf b hb).2.nl, (hf b hb).2.ce, (hf b hb).2.pn⟩) (fun b o _ _ hc e _ => k b o hc e) (fun b o _ _ hc e _ => ⟨o.slots, k b o hc e⟩)
    (fun b o hc e n => ?_) (fun b o hc e => ⟨o, k b o hc e⟩) (fun b xs e => ?_) (fun b o u e => ?_) (fun b ps e => ⟨#[], ?_⟩) (fun m hm => ?_) (fun b u e => ?_) I.bare
  · rw [upd_ne (fun z => hc (by rw [z]; exact hT))]; exact n
  · rw [upd_ne (ne_of_none e hn)]; exact e
  · rw [upd_ne (ne_of_none e hn)]; exact e
  · rw [upd_ne (ne_of_none e hn), e]; simp
  · obtain ⟨o, es, ep, ho, r⟩ := hm
    exact ⟨o, es, ep, k _ o (fun z => (hf _ z).2.nl rfl) ho, r⟩
  · by_cases hb : b = T
    · subst hb
      rw [upd_same] at e
      cases e
      exact new
    · rw [upd_ne hb] at e
      refine (I.hok b u e).stay (fun c v hc q => k c v ?_ q) (fun c q => by rw [upd_ne (ne_of_none q hn)]; exact q) fun c xs q => by rw [upd_ne (ne_of_none q hn)]; exact q
      rcases hc with z | z
      · rw [z]; exact nit b u e
      · exact nit c _ z
theorem inv_turns {t' : Nat} {b : Addr} (I : Inv X pins σ H s) (n : H b = none) (r : FbM.Rec X pins b) (k : ∀ c o, c ≠ b → s.heap.get? c = some o → h'.get? c = some o) : Inv X pins σ H { s with heap := h', toks := t' } := r.turn (t' := t') I n k
end
def srtK (ks ds : List D) : List D := ((ks.zip ds).mergeSort (PySem.W.dataLe false Prod.fst)).map Prod.snd
def sortKL (m : D → R D) (ds : List D) : R (List D) := (compR (fun _ => R.ret true) m ds []).bind fun ks => if srtOk ks = true ∧ ds.length ≤ sizeLine then R.ret (srtK ks ds) else bad
def sortKR (m : D → R D) (d : D) : R (List D) := match d with
  | .list ds => nx (sortKL m ds)
  | .tuple ds => nx (sortKL m ds)
  | _ => bad
theorem fo_same {K : PySem.W.Frag} {H H' : Hp} {B : Addr → Prop} (fo : Fo K H B) (sm : Same H H') : Fo K H' B := ⟨fun b z => let ⟨o, e, n⟩ := fo.b b z; ⟨o, sm _ _ e, n⟩, fo.t.same sm⟩
theorem each_zip {α β γ : Type} {R : α → γ → Prop} : ∀ {as : List α} {cs : List β} {ds : List γ}, PySem.W.EachIs R as ds → cs.length = ds.length → PySem.W.EachIs (fun a p => R a p.2) as (cs.zip ds)
  | _, [], _, .nil, _ => .nil
  | _, c :: cs, _, .cons h t, e => .cons h (each_zip t (by simpa using e))
  | _, _ :: _, _, .nil, e => by simp at e
  | _, [], _, .cons _ _, e => by simp at e
theorem each_snd {α β γ : Type} {R : α → γ → Prop} : ∀ {as : List α} {ps : List (β × γ)}, PySem.W.EachIs (fun a p => R a p.2) as ps → PySem.W.EachIs R as (ps.map Prod.snd)
  | _, _, .nil => .nil
  | _, _, .cons h t => .cons h (each_snd t)
theorem each_get {α β : Type} {R : α → β → Prop} {j : Nat} {a : α} {b : β} : ∀ {as : List α} {bs : List β}, PySem.W.EachIs R as bs → as[j]? = some a → bs[j]? = some b → R a b := by
  induction j with
  | zero =>
    intro as bs h e1 e2
    cases h with
    | nil => cases e1
    | cons h t => cases e1; cases e2; exact h
  | succ j ih =>
    intro as bs h e1 e2
    cases h with
    | nil => cases e1
    | cons h t => exact ih t (by simpa using e1) (by simpa using e2)
theorem sortK_run {X : Cx} {pins : List (Addr × Obj)} {σ : L2.St} {H : Hp} {s : Shared} {Q : VK} {f l : Addr} {fd : FuncData} {ps : List Str} {m : D → R D} {k : Nat} {T : String} {o : Obj} {its : List Value} {nn : Nat} {vs : List V} {ds : List D} {B : Addr → Prop} (I : Inv X pins σ H s)
    (Fn : FnOk X.prog X.w X.K X.mg X.base CX0 k f fd ps (spP X.K 1 (l1 m))) (hr : Room k X.A.in1.in1) (hb : Binds X.K fd ps []) (hT : T = "list" ∨ T = "tuple") (ho : s.heap.get? l = some o) (hc : o.cls = .type T) (hd : o.data = .seq its.toArray nn) (hz : its.length ≤ sizeLine)
    (rv : Vals vs its) (fo : Fo X.K H B) (rr : Reps X.K B H vs ds) (q : (sortKL m ds).wp (fun out => ∀ ys p H', Same H H' → H' p = none → Reps X.K B H' ys out → Q (.ref p) (upd H' p (.lst ys))) fun _ _ => False) :
    wpAny (model X.prog X.w) X.A (call (.builtin "sorted") [.ref l] [(Str.ofString "key", .ref f)]) (EP X pins σ Q) X.xe s := by
  have each0 := each_vals rr rv
  have hlen : ds.length = its.length := each0.length.symm
  refine call_function_entry_kw PyProof.Rows.kind_sorted PyProof.Rows.plain_sorted PyProof.Rows.entry_sorted (ksk_s1 _ _) ?_
  unfold Builtin.«sorted»
  refine wpAny_bind (m := checkCount "sorted" 1 1 _) (wpAny_pure ?_)
  refine wpAny_bind (wpAny_collect_seq l hT ho hc hd (fun h1 k1 => ?_) (by rw [List.size_toArray]; exact hz))
  rw [List.toList_toArray]
  have I1 : Inv X pins σ H { s with heap := h1 } := I.kept (t' := s.toks) k1
  refine wpAny_bind (wpAny_newList ?_ hz)
  generalize ea : h1.objs.size = a at I1
  have Ra : FbM.Rec X pins a := FbM.rec_new I1 (Nat.le_of_eq ea)
  have Ha : H a = none := I1.hok.fresh (Nat.le_of_eq ea)
  have hoL : (h1.push (seqObj "list" its.toArray 0)).get? a = some (seqObj "list" its.toArray 0) := by rw [← ea]; exact Heap.get?_push_size _ rfl
  have I2 : Inv X pins σ H { s with heap := h1.push (seqObj "list" its.toArray 0) } := I1.kept (t' := s.toks) fun b u e => Heap.get?_push_of_some _ e
  generalize h1.push (seqObj "list" its.toArray 0) = h2 at hoL I2
  refine wpAny_bind (wpAny_holding (wpAny_call_entry_kw slot_list_sort ⟨_, hoL, rfl⟩ entry_list_sort ?_ (ksk_l1 _ _)))
  rw [ksk_t1]
  have s1 := Heap.SameBut.update h2 a (Obj.mapSeq fun _ => (#[] : Array Value))
  obtain ⟨e1, ho1⟩ : ∃ e1, (h2.update a (Obj.mapSeq fun _ => (#[] : Array Value))).get? a = some (seqObj "list" #[] e1) := ⟨_, get?_update_seq hoL fun _ => #[]⟩
  have I3 : Inv X pins σ H { s with heap := h2.update a (Obj.mapSeq fun _ => (#[] : Array Value)) } := inv_turns (s := { s with heap := h2 }) (t' := s.toks) I2 Ha Ra fun c u hc e => (s1.2 c hc).trans e
  unfold ksk_tree
  refine wpAny_bind (listItems_at hoL rfl ?_)
  refine wpAny_bind (listUpdate_at hoL rfl ?_ (by rw [List.size_toArray]; exact hz) (Nat.zero_le _))
  generalize h2.update a (Obj.mapSeq fun _ => (#[] : Array Value)) = h3 at ho1 I3
  refine wpAny_bind (seqEpoch_at ho1 rfl ?_)
  refine wpAny_bind (wpAny_newTuple ?_ (by rw [List.toList_toArray]; exact hz))
  have I4 : Inv X pins σ H { s with heap := h3.push (seqObj "tuple" its.toArray.toList.toArray 0) } := I3.kept (t' := s.toks) fun b u e => Heap.get?_push_of_some _ e
  have ho4 : (h3.push (seqObj "tuple" its.toArray.toList.toArray 0)).get? a = some (seqObj "list" #[] e1) := Heap.get?_push_of_some _ ho1
  generalize h3.push (seqObj "tuple" its.toArray.toList.toArray 0) = h4 at I4 ho4
  refine wpAny_bind (wpAny_newList ?_ (Nat.zero_le _))
  generalize ek : h4.objs.size = kS at I4
  have Rk : FbM.Rec X pins kS := FbM.rec_new I4 (Nat.le_of_eq ek)
  have Hk : H kS = none := I4.hok.fresh (Nat.le_of_eq ek)
  have hka : kS ≠ a := fun z => by
    have this := Heap.lt_size ho4
    rw [ek, ← z] at this
    exact Nat.lt_irrefl _ this
  have hok5 : (h4.push (seqObj "list" #[] 0)).get? kS = some (seqObj "list" #[] 0) := by rw [← ek]; exact Heap.get?_push_size _ rfl
  have ho5 : (h4.push (seqObj "list" #[] 0)).get? a = some (seqObj "list" #[] e1) := Heap.get?_push_of_some _ ho4
  have I5 : Inv X pins σ H { s with heap := h4.push (seqObj "list" #[] 0) } := I4.kept (t' := s.toks) fun b u e => Heap.get?_push_of_some _ e
  refine wpAny_holding ?_
  generalize h4.push (seqObj "list" #[] 0) = h5 at hok5 ho5 I5
  unfold ksk_rest
  refine wpAny_bind (wpAny_rule ?_)
  first
    | rw [List.forIn_toArray]
    | (rw [← Array.forIn_toList]; simp only [List.toList_toArray])
    | rw [← Array.forIn_toList]
  unfold sortKL at q
  refine wpAny_bind (ksk_fold (fun i s' => ∃ (H' : Hp) (kA : Array Value) (e : Nat) (acc : List D), Inv X pins σ H' s' ∧ Same H H' ∧ H' a = none ∧ H' kS = none ∧ s'.heap.get? kS = some (seqObj "list" kA e) ∧ s'.heap.get? a = some (seqObj "list" #[] e1) ∧
      PySem.W.EachIs (fun u d => ∃ v, RelV v u ∧ Rep X.K B H' v d) kA.toList acc ∧ acc.length = i ∧
      ((compR (fun _ => R.ret true) m (ds.drop i) acc).bind fun ks => if srtOk ks = true ∧ ds.length ≤ sizeLine then R.ret (srtK ks ds) else bad).wp (fun out => ∀ ys p H', Same H H' → H' p = none → Reps X.K B H' ys out → Q (.ref p) (upd H' p (.lst ys))) fun _ _ => False) its 0 _
    ⟨H, #[], 0, [], I5, Same.refl _, Ha, Hk, hok5, ho5, .nil, rfl, q⟩ ?step ?done)
  case step =>
    rintro j x s' hx ⟨H', kA, e, acc, I', sm, na, nk, hk1, ha1, each, hl, q⟩
    simp only [Nat.zero_add] at hl q ⊢
    have hj : j < its.length := (List.getElem?_eq_some_iff.mp hx).1
    have hjd : j < ds.length := by omega
    obtain ⟨v, rx, rd⟩ := each_get each0 hx (List.getElem?_eq_getElem hjd)
    have edrop : ds.drop j = ds[j] :: ds.drop (j + 1) := List.drop_eq_getElem_cons hjd
    rw [edrop] at q
    unfold compR at q
    simp only [nx_ret, ret_bind, if_true] at q
    rw [R.bind_assoc, wp_bind] at q
    have q2 := wp_nx (E' := fun _ _ => False) q
    have fo' : Fo X.K H' B := fo_same fo sm
    have hl1 : ([x] ++ ([] : List Value)).length = ps.length := by
      have := Fn.len [v] H' (fun _ _ => True) (fun _ _ _ => False) ⟨B, [ds[j]], fo', rfl, .cons (rd.stay (same_stay sm)) .nil, wp_mono (fun _ _ _ _ _ _ => trivial) (fun _ _ z => z) q2⟩
      simpa using this
    refine wpAny_bind (wpAny_attempt (wpAny_mono (Q := fun u s'' => ∃ (H'' : Hp) (y : D), Inv X pins σ H'' s'' ∧ Same H' H'' ∧ H'' a = none ∧ H'' kS = none ∧ s''.heap.get? kS = some (seqObj "list" kA e) ∧ s''.heap.get? a = some (seqObj "list" #[] e1) ∧ (∃ v', RelV v' u ∧ Rep X.K B H'' v' y) ∧
        ((if acc.length < sizeLine then compR (fun _ => R.ret true) m (ds.drop (j + 1)) (acc ++ [y]) else bad).bind fun ks => if srtOk ks = true ∧ ds.length ≤ sizeLine then R.ret (srtK ks ds) else bad).wp (fun out => ∀ ys p H', Same H H' → H' p = none → Reps X.K B H' ys out → Q (.ref p) (upd H' p (.lst ys))) fun _ _ => False) (E := fun _ _ => False) ?call (fun u s'' hq => ?_) fun _ _ hF => hF.elim))
    case call =>
      refine wpAny_call (codeAny_mono (Fn.run X.A.in1.in1 X.stack s' H' ⟨[x], []⟩ [x] [v] (fun v' H'' => ∃ y, Same H' H'' ∧ Rep X.K B H'' v' y ∧
        ((if acc.length < sizeLine then compR (fun _ => R.ret true) m (ds.drop (j + 1)) (acc ++ [y]) else bad).bind fun ks => if srtOk ks = true ∧ ds.length ≤ sizeLine then R.ret (srtK ks ds) else bad).wp (fun out => ∀ ys p H', Same H H' → H' p = none → Reps X.K B H' ys out → Q (.ref p) (upd H' p (.lst ys))) fun _ _ => False) (fun _ _ _ => False) hr I'.env0.in1.in1 (by have := hb s' [x] I'.kIn hl1; rw [List.append_nil] at this; exact this) (.cons rx .nil)
          ⟨B, [ds[j]], fo', rfl, .cons (rd.stay (same_stay sm)) .nil, wp_mono (fun y hy v' H'' sm2 r2 => ⟨y, sm2, r2, hy⟩) (fun _ _ z => z) q2⟩) fun r s'' hq => ?_)
      cases r with
      | error er => exact hq
      | ok fl =>
        cases fl with
        | next => exact False.elim hq
        | brk => exact False.elim hq
        | cont => exact False.elim hq
        | ret u =>
          obtain ⟨v', H'', os, bare, un, hok', rv', y, sm2, r2, q3⟩ := (show CE X.stack X.prog X.w H' _ _ u s'' from hq)
          have I'' : Inv X pins σ H'' s'' := I'.call' os un hok' bare fun b y => absurd y List.not_mem_nil
          exact ⟨H'', y, I'', sm2, un.free a _ ha1 na List.not_mem_nil, un.free kS _ hk1 nk List.not_mem_nil, un.keep kS _ hk1 nk Rk.fr List.not_mem_nil, un.keep a _ ha1 na Ra.fr List.not_mem_nil, ⟨v', rv', r2⟩, q3⟩
    · obtain ⟨H'', y, I'', sm2, na2, nk2, hk2, ha2, ⟨v', rv', r2⟩, q3⟩ := hq
      try dsimp only
      have hsz : kA.size = acc.length := by
        have := each.length
        rw [Array.length_toList] at this
        exact this
      have s2 := Heap.SameBut.update s''.heap kS (Obj.mapSeq (·.push u))
      obtain ⟨c2, hc2⟩ : ∃ c2, (s''.heap.update kS (Obj.mapSeq (·.push u))).get? kS = some (seqObj "list" (kA.push u) c2) := ⟨_, get?_update_seq hk2 (·.push u)⟩
      have hlt : acc.length < sizeLine := by omega
      rw [if_pos hlt] at q3
      refine wpAny_bind (listUpdate_at hk2 rfl ?_ (by omega) (Nat.le_trans (Nat.le_of_eq (Array.size_push ..)) (by omega)))
      refine wpAny_pure ⟨rfl, H'', kA.push u, c2, acc ++ [y], inv_turns (t' := s''.toks) I'' nk2 Rk fun c o hc e => (s2.2 c hc).trans e, sm.trans sm2, na2, nk2, hc2, (s2.2 a hka.symm).trans ha2, ?_, by rw [List.length_append, hl]; rfl, q3⟩
      rw [show (kA.push u).toList = kA.toList ++ [u] by simp]
      exact PySem.W.each_snoc ⟨v', rv', r2⟩ (each_pair each fun _ _ ⟨v, a, b⟩ => ⟨v, a, b.stay (same_stay sm2)⟩)
  case done =>
    rintro s' ⟨H', kA, e, acc, I', sm, na, nk, hk1, ha1, each, hl, q⟩
    rw [Nat.zero_add] at hl q
    rw [List.drop_of_length_le (by omega)] at q
    unfold compR at q
    rw [ret_bind] at q
    obtain ⟨⟨ok1, _⟩, q⟩ := wp_ite q
    have q : ∀ ys p H', Same H H' → H' p = none → Reps X.K B H' ys (srtK acc ds) → Q (.ref p) (upd H' p (.lst ys)) := q
    obtain ⟨g1, g2, g3⟩ := srt_alike ok1
    obtain ⟨vk, hvk, hyk⟩ := vals_each each
    obtain ⟨as, ra⟩ := Dp.readsAll I' acc vk kA.toList hyk.dp hvk
    have reads := reads_each ra
    have hsz : kA.size = its.length := by
      have := each.length
      rw [Array.length_toList] at this
      omega
    try dsimp only
    refine wpAny_bind (listItems_at hk1 rfl ?_)
    refine PySem.W.key_endC (κ := PySem.W.dataKind s'.heap acc) hk1 ha1 hka (PySem.W.SortsAt.data reads g1 g2 fun d hd => by have := g3 d hd; have := hr.un; omega) hsz hz ?_
    have em : (acc.zip ds).map Prod.fst = acc := List.map_fst_zip (by omega)
    have ko : PySem.W.KeyedOut false ((acc.zip ds).map Prod.fst) its (PySem.W.sortVals (PySem.W.dataKind s'.heap acc) false kA.toList its) := by
      rw [em]
      exact ⟨s'.heap, kA.toList, g1, rfl, reads⟩
    have e0 : PySem.W.EachIs (fun u d => ∃ v, RelV v u ∧ Rep X.K B H' v d) its ds := each_pair each0 fun _ _ ⟨v, a, b⟩ => ⟨v, a, b.stay (same_stay sm)⟩
    have eo := each_snd (R := fun u d => ∃ v, RelV v u ∧ Rep X.K B H' v d) (PySem.W.keyedOut_each (R := fun u (p : D × D) => ∃ v, RelV v u ∧ Rep X.K B H' v p.2) Prod.fst ko (each_zip e0 (show acc.length = ds.length by omega)))
    generalize PySem.W.sortVals (PySem.W.dataKind s'.heap acc) false kA.toList its = out at eo
    obtain ⟨ys, hv, hy⟩ := vals_each (K := X.K) (B := B) (H := H') eo
    have t1 := Heap.SameBut.update s'.heap kS (Obj.mapSeq fun _ => (#[] : Array Value))
    have na1 : (s'.heap.update kS (Obj.mapSeq fun _ => (#[] : Array Value))).get? a = some (seqObj "list" #[] e1) := (t1.2 a hka.symm).trans ha1
    have t2 := Heap.SameBut.update (s'.heap.update kS (Obj.mapSeq fun _ => (#[] : Array Value))) a (Obj.mapSeq fun _ => out.toArray)
    obtain ⟨c2, hc2⟩ : ∃ c2, ((s'.heap.update kS (Obj.mapSeq fun _ => (#[] : Array Value))).update a (Obj.mapSeq fun _ => out.toArray)).get? a = some (seqObj "list" out.toArray c2) := ⟨_, get?_update_seq na1 fun _ => out.toArray⟩
    have hlo : ys.length ≤ sizeLine := by
      rw [hy.length, List.length_map, List.length_mergeSort, List.length_zip]
      omega
    refine ⟨_, rfl, wpAny_pure ⟨_, rfl, .ref a, upd H' a (.lst ys), inv_track (t' := s'.toks) (ch := [a, kS]) I' (fun b o hb e => ?_) (fun b hb => ?_) (by simp) ⟨hlo, out, c2, hv, hc2⟩, rfl, q ys a H' sm na hy⟩⟩
    · simp only [List.mem_cons, List.not_mem_nil, or_false, not_or] at hb
      exact (t2.2 b hb.1).trans ((t1.2 b hb.2).trans e)
    · simp only [List.mem_cons, List.not_mem_nil, or_false] at hb
      rcases hb with rfl | rfl
      · exact ⟨na, Ra⟩
      · exact ⟨nk, Rk⟩
def rSortK (K : PySem.W.Frag) (m : D → R D) (fa : Addr) : List V → List V → Hp → VK → Prop := fun vs zs H Q => ∃ (a : Addr) (xs : List V) (ds : List D) (B : Addr → Prop), vs = [V.ref a] ∧ zs = [V.ref fa] ∧ (SqL K H a xs ∨ SqT K H a xs) ∧ Fo K H B ∧ Reps K B H xs ds ∧
  (sortKL m ds).wp (fun out => ∀ ys p H', Same H H' → H' p = none → Reps K B H' ys out → Q (.ref p) (upd H' p (.lst ys))) fun _ _ => False
theorem cr_sortK {X : Cx} {m : D → R D} {k : Nat} {f : Addr} {fd : FuncData} {ps : List Str} (Fn : FnOk X.prog X.w X.K X.mg X.base CX0 k f fd ps (spP X.K 1 (l1 m))) (hr : Room k X.A.in1.in1) (hb : Binds X.K fd ps []) : CallRK X (.builtin "sorted") [Str.ofString "key"] (rSortK X.K m f) := by
  intro pins s σ H vs zs us ws Q I r rz h
  obtain ⟨a, xs, ds, B, rfl, rfl, hs, fo, rr, q⟩ := h
  obtain rfl := Vals.ref1 r
  obtain rfl := Vals.ref1 rz
  rcases hs with hs | hs
  · obtain ⟨its, rv, ⟨o, n, e1, e2, _, e3⟩, hz⟩ := I.list hs
    exact sortK_run I Fn hr hb (.inl rfl) e1 e2 e3 (by rw [← rv.length]; exact hz) rv fo rr q
  · obtain ⟨its, rv, ⟨o, e1, e2, n, e3⟩, hz⟩ := I.tuple hs
    exact sortK_run I Fn hr hb (.inr rfl) e1 e2 e3 (by rw [← rv.length]; exact hz) rv fo rr q
section
variable {k j : Nat} {wd : Wd} {N : List Str} {sc : Scope} {X : Cx} {ρ : List Sl} {a : Expr} {pos p pf pk : Pos} {f : Str} {ra : R D} {CX : CXT}
/-- sorted(a, key=f) -/
theorem evl_sortK [Calm wd] (c : Cw CX k wd N sc X) (Bt : Bt X.mg) {m : D → R D} (hg : glB sc "sorted" = true) (G : Df X.prog X.w X.K X.mg X.base CX0 j f (spP X.K 1 (l1 m))) (hj : j + 2 ≤ k) (hgf : glB sc f = true) (ha : EvB X wd ρ a ra) (he : Plain X a := by exact fun _ => rfl) :
    EvL X wd ρ (.Call (.Name "sorted" p) [a] [⟨some "key", .Name f pf, pk⟩] pos) (ra.bind fun x => sortKR m x) := fun F ad σ H Q s q => by
  obtain ⟨fa, fd, ps, h1, h2, h3, h4⟩ := G.ok
  have hr : Room j X.A.in1.in1 := (c.room.mono hj).in1.in1
  refine be (pe_callBK (cr_sortK h4 hr h3) (c.gl hg).1 Bt.sorted bv_sorted (pa_cons pe_b pa_nil (he [])) (pk_cons (pe_glob (v := .ref fa) (c.gl hgf).1 h1 rfl (c.gl hgf).2.1) pk_nil) (c.gl hg).2.2 (c.gl hg).2.1 (by rw [he []]; rfl) (by rw [he []]; rfl)) ?_
  rw [wp_bind] at q
  refine ha F ad σ H _ s (wp_mono (fun d q v H1 g1 r1 => ?_) (fun _ _ z => z) q)
  have s1 := s.grow g1
  have fin : ∀ (b : Addr) (vs : List V) (ds : List D), v = .ref b → (SqL X.K H1 b vs ∨ SqT X.K H1 b vs) → Reps X.K (Ban F ρ ad) H1 vs ds → (nx (sortKL m ds)).wp (fun ds => ∀ (a : Addr) (vs : List V) (H' : Hp), Grow wd.dr H H' → H a = none → H' a = some (HO.lst vs) → Reps X.K (fun b => Ban F ρ ad b ∨ b = a) H' vs ds → Q (V.ref a) H') (XP X wd F ρ ad H) →
      rSortK X.K m fa [v] [.ref fa] H1 Q := fun b vs ds ev hs rr q => ⟨b, vs, ds, Ban F ρ ad, by rw [ev], rfl, hs, s1.fo, rr, wp_mono (fun out q ys p H' sm hp hy => by
    have g2 : Grow wd.dr H H' := g1.trans (Grow.same sm)
    refine q p ys _ (g2.trans (Grow.same (same_upd hp))) (free_grow s g2 hp) upd_same ?_
    refine (hy.ban fun b z => ?_).stay (same_stay (same_upd hp))
    rcases z with z | rfl
    · exact .inl z
    · exact .inr hp) (fun _ _ z => z) (wp_nx (E' := fun _ _ => False) q)⟩
  cases d with
  | list ds =>
    obtain ⟨b, vs, rfl, h1, rr⟩ := r1.list
    exact fin b vs ds rfl (.inl (.inl h1)) rr q
  | tuple ds =>
    obtain ⟨b, vs, rfl, h1, rr⟩ := r1.tuple
    exact fin b vs ds rfl (.inr h1.sq) rr q
  | _ => exact q.elim
/-- str(a), an int -/
def strI : D → R D
  | .int i => if i.natAbs.log2 < 1920 then R.ret (.str (toString i)) else bad
  | _ => bad
theorem calS_strI {K : PySem.W.Frag} : CalS K (fun xs H Q => ∃ i : Int, xs = [.int i] ∧ i.natAbs.log2 < 1920 ∧ Q (.str (toString i)) H) strI := by
  intro B H x d Q E nb r q
  cases d with
  | int i =>
    obtain ⟨h, q⟩ := wp_ite q
    exact ⟨i, by rw [r.int], h, q _ _ (Same.refl _) (.str _)⟩
  | _ => exact q.elim
theorem bv_str0 : bootBuiltins "str" = some (.type "str") := by decide +kernel
theorem ev_strI (c : Cw CX k wd N sc X) (B : Bt X.mg) (hg : glB sc "str" = true) (ha : EvB X wd ρ a ra) (he : Plain X a := by exact fun _ => rfl) : Ev X wd ρ (.Call (.Name "str" p) [a] [] pos) (ra.bind fun x => strI x) := ev_t1 c call_str_int calS_strI hg B.str bv_str0 ha he
end
/-- xs[::-1], a list -/
def revLR : D → R D
  | .list xs => R.ret (.list xs.reverse)
  | _ => bad
section
variable {X : Cx} {wd : Wd} {ρ : List Sl} {a : Expr} {ra : R D}
theorem ev_revL {k : Nat} {p1 p2 p3 pos : Pos} (ha : EvB X wd ρ a ra) : Ev X wd ρ (.Subscript a (.Slice none none (some (.UnaryOp .USub (.Constant (.int 1) k p1) p2)) p3) pos) (ra.bind fun x => revLR x) := fun F ad σ H Q s q => by
  refine be (pe_revL pe_b) ?_
  rw [wp_bind] at q
  refine ha F ad σ H _ s (wp_mono (fun d q v H1 g1 r1 => ?_) (fun _ _ z => z) q)
  have s1 := s.grow g1
  cases d with
  | list ds =>
    obtain ⟨l, vs, rfl, e, rr⟩ := r1.list
    exact ⟨l, vs, rfl, .inl e, fun p hp => q _ _ (g1.trans (Grow.same (same_upd hp))) (newlst (fun b z => s1.banned z) hp rr.rev)⟩
  | _ => exact q.elim
end
end Pu
/-! Pfo: for over rows of four. -/
namespace Pu
open PySem PySem.Spec PyProof.Rows L2 R
section
variable {CX : CXT} {k : Nat} {wd : Wd} {N : List Str} {sc : Scope} {X : Cx} {S S1 B T : Type} {eS : S → List Sl} {eS1 : S1 → List Sl} {eB : B → List Sl} {eT : T → List Sl} {ρ : List Sl} {rest : List Stmt} {p pos px py pz pu : Pos} {x y z u : Str} {i j l m kt : Nat}
theorem run_for4 [Calm wd] (c : Cd CX k wd N sc X) {iter : Expr} {body : List Stmt} {r : R (List D)} {s0 : S1} {f : D → D → D → D → S1 → R (Out S1 S1 T)} {o : S1 → R (Out S B T)} (hx : lcB sc x = true) (hN : N[i]? = some x) (hy : lcB sc y = true) (hN2 : N[j]? = some y) (hz : lcB sc z = true) (hN3 : N[l]? = some z) (hu : lcB sc u = true) (hN4 : N[m]? = some u)
    (hi : EvI X wd ρ (.Tuple [.Name x px, .Name y py, .Name z pz, .Name u pu] kt p) iter r) (hl : Le (eS1 s0) ρ)
    (hb : ∀ s a b d e, Run X wd eS1 eS1 eT (((((eS1 s).set i (.d a)).set j (.d b)).set l (.d d)).set m (.d e)) body (f a b d e s)) (hr : ∀ s, Run X wd eS eB eT (eS1 s) rest (o s))
    (hs : ∀ x, foldedSetIterable iter X.env x = pure x := by exact fun _ => rfl) : Run X wd eS eB eT ρ (.For (.Tuple [.Name x px, .Name y py, .Name z pz, .Name u pu] kt p) iter body [] pos :: rest) (r.bind fun ds => seqR (forR (fun d s => unp4 d fun a b e g => f a b e g s) ds s0) o) :=
  run_forG c (vs := [i, j, l, m]) (st := fun s d => stT 4 [i, j, l, m] (eS1 s) d) hi hl (pg_tup c.calm (pgn_cons c hx hN (pgn_cons c hy hN2 (pgn_cons c hz hN3 (pgn_cons c hu hN4 pgn_nil))))) (fun s => gs_tup (is := [i, j, l, m])) (fun s d e => stT4n e) (fun s d ρ' e => by obtain ⟨a, b, g, h, rfl, rfl⟩ := stT4 e; exact hb s a b g h) hr hs
end
/-! comprehensions over rows of four -/
def isT4 : D → R Bool
  | .tuple [_, _, _, _] => ret true
  | _ => bad
section
variable {CX : CXT} {k : Nat} {wd : Wd} {N : List Str} {sc : Scope} {X : Cx} {ρ : List Sl} {e tg iter elt t : Expr} {pos p px py pz pu pt : Pos} {x y z u : Str} {i j l m : Nat} {sl sl2 sl3 sl4 : Sl}
theorem isT4_of {i j l m : Nat} {d : D} {ρ' : List Sl} (h : stT 4 [i, j, l, m] ρ d = some ρ') : isT4 d = ret true := by
  obtain ⟨a, b, c, e, rfl, _⟩ := stT4 h; rfl
theorem isT4_no {i j l m : Nat} {d : D} (h : stT 4 [i, j, l, m] ρ d = none) : isT4 d = bad := by
  have := stT4n (ρ := ρ) (i := i) (j := j) (l := l) (m := m) (f := fun _ _ _ _ => (ret true : R Bool)) h
  rw [← this]
  cases d with
  | tuple xs =>
    match xs with
    | [a, b, c, e] => rfl
    | [] => rfl
    | [_] => rfl
    | [_, _] => rfl
    | [_, _, _] => rfl
    | _ :: _ :: _ :: _ :: _ :: _ => rfl
  | _ => rfl
theorem blkg_tup4 [Calm wd] (c : Cw CX k wd N sc X) {scope : Scope} {kt : Nat} (h1 : BlkG X scope (.Name x px) (gName i)) (h2 : BlkG X scope (.Name y py) (gName j)) (h3 : BlkG X scope (.Name z pz) (gName l)) (h4 : BlkG X scope (.Name u pu) (gName m)) : BlkG X scope (.Tuple [.Name x px, .Name y py, .Name z pz, .Name u pu] kt pt) (gTup X.K 4 (gNames [i, j, l, m])) :=
  fun s H C cl fp => pg_tup c.calm (pgs_cons (h1 s H C cl fp) (pgs_cons (h2 s H C cl fp) (pgs_cons (h3 s H C cl fp) (pgs_cons (h4 s H C cl fp) pgs_nil))))
theorem evl_compT4 [Calm wd] (c : Cw CX k wd N sc X) {scope : Scope} {f : D → D → D → D → R D} {r : R (List D)} {kt : Nat} (hok : blkC N sc scope [(x, i), (y, j), (z, l), (u, m)] = true) (hN : N[i]? = some x) (hx : tgB scope sc x = true) (hN2 : N[j]? = some y) (hy : tgB scope sc y = true) (hN3 : N[l]? = some z) (hz : tgB scope sc z = true) (hN4 : N[m]? = some u) (hu : tgB scope sc u = true) (hno : ρ[i]? = some sl) (hsl : sl.own = false) (hno2 : ρ[j]? = some sl2) (hsl2 : sl2.own = false) (hno3 : ρ[l]? = some sl3) (hsl3 : sl3.own = false) (hno4 : ρ[m]? = some sl4) (hsl4 : sl4.own = false)
    (hi : EvJ X wd ρ (.Tuple [.Name x px, .Name y py, .Name z pz, .Name u pu] kt pt) iter r) (hel : ∀ a b d e s0 H0 C cl fp, Ev (X.blk s0 H0 scope (compEnvC scope cl C X.env) fp) wd.calm (((((wipeS ρ [i, j, l, m]).set i (.d a)).set j (.d b)).set l (.d d)).set m (.d e)) elt (f a b d e)) (hs : ∀ x, foldedSetIterable iter X.env x = pure x := by exact fun _ => rfl) :
    EvL X wd ρ (.ListComp elt [⟨.Tuple [.Name x px, .Name y py, .Name z pz, .Name u pu] kt pt, iter, [], 0⟩] scope pos) (r.bind fun ds => compR isT4 (fun d => unp4 d f) ds []) :=
  evl_compG c (own := [(x, i), (y, j), (z, l), (u, m)]) hok (blkg_tup4 c (blkg_name c hN hx) (blkg_name c hN2 hy) (blkg_name c hN3 hz) (blkg_name c hN4 hu)) (gs_tup (ρ := wipeS ρ [i, j, l, m]) (is := [i, j, l, m])) (fun u hu => by
    simp only [List.map_cons, List.map_nil, List.mem_cons, List.not_mem_nil, or_false] at hu
    rcases hu with rfl | rfl | rfl | rfl
    · exact not_own hno hsl
    · exact not_own hno2 hsl2
    · exact not_own hno3 hsl3
    · exact not_own hno4 hsl4) hi (Nat.zero_le _) ⟨fun d e => isT4_no e, fun d ρ' e => by obtain ⟨a, b, d, e1, rfl, rfl⟩ := stT4 e; exact hel a b d e1, fun d ρ' e => isT4_of e⟩ hs
end
end Pu
/-! Pl2: comprehensions with two fors. -/
namespace Pu
open PySem PySem.Spec PyProof.Rows L2 R
/-- [f x y for x in .. if cf x for y in src x if cf1 x y], behind acc -/
def comp2R (cf : D → R Bool) (src : D → R (List D)) (cf1 : D → D → R Bool) (f : D → D → R D) : List D → List D → R (List D)
  | [], acc => ret acc
  | x :: xs, acc => (nx (cf x)).bind fun b => if b = true then (nx (src x)).bind fun ds1 => (compR (cf1 x) (f x) ds1 acc).bind fun acc => comp2R cf src cf1 f xs acc else comp2R cf src cf1 f xs acc
section
variable {CX : CXT} {k : Nat} {wd : Wd} {N : List Str} {sc : Scope} {X : Cx} {ρ : List Sl} {e a b tg iter tg1 iter1 elt t : Expr} {ifs ifs1 : List Expr} {pos p px py : Pos} {x y : Str} {i j : Nat} {sl sl2 : Sl}
def bI (X : Cx) (scope : Scope) (tg iter : Expr) : TI := fun σ H R => ∀ s0 H0 C cl fp, BI (X.blk s0 H0 scope (compEnvC scope cl C X.env) fp) tg iter σ H R
theorem bI_pi {scope : Scope} (s0 : Shared) (H0 : Hp) (C : Addr) (cl : List (Str × Addr)) (fp : List Addr) : PI (X.blk s0 H0 scope (compEnvC scope cl C X.env) fp) tg iter (bI X scope tg iter) := ⟨fun pins s σ H R I h => h s0 H0 C cl fp pins s I⟩
/-- what the parts compute -/
structure L2El (X : Cx) (wd : Wd) (scope : Scope) (ρ : List Sl) (i j : Nat) (tg1 iter1 elt : Expr) (ifs ifs1 : List Expr) (cf : D → R Bool) (src : D → R (List D)) (cf1 : D → D → R Bool) (f : D → D → R D) : Prop where
  ts : ∀ d, match ifs with
    | [] => cf d = R.ret true
    | t :: _ => ∀ s0 H0 C cl fp, EvT (X.blk s0 H0 scope (compEnvC scope cl C X.env) fp) wd.calm ((wipeS ρ [i, j]).set i (.d d)) t (cf d)
  it : ∀ d s0 H0 C cl fp, EvI (X.blk s0 H0 scope (compEnvC scope cl C X.env) fp) wd.calm ((wipeS ρ [i, j]).set i (.d d)) tg1 iter1 (src d)
  ts1 : ∀ d e, match ifs1 with
    | [] => cf1 d e = R.ret true
    | t :: _ => ∀ s0 H0 C cl fp, EvT (X.blk s0 H0 scope (compEnvC scope cl C X.env) fp) wd.calm (((wipeS ρ [i, j]).set i (.d d)).set j (.d e)) t (cf1 d e)
  el : ∀ d e s0 H0 C cl fp, Ev (X.blk s0 H0 scope (compEnvC scope cl C X.env) fp) wd.calm (((wipeS ρ [i, j]).set i (.d d)).set j (.d e)) elt (f d e)
theorem wp_nxx {α : Type} {Q : α → Prop} {E E' : Nat → D → Prop} {r : R α} (h : wp Q E (nx r)) : wp Q E' r := wp_nx h
theorem l2_read {scope : Scope} {cf : D → R Bool} {src : D → R (List D)} {cf1 : D → D → R Bool} {f : D → D → R D} {r : R (List D)} (hi : EvJ X wd ρ tg iter r) (hij : i ≠ j) (hno : ¬ Own ρ i) (hno2 : ¬ Own ρ j) (hel : L2El X wd scope ρ i j tg1 iter1 elt ifs ifs1 cf src cf1 f)
    (F : Addr → Prop) (ad : Nat → Addr) (σ : L2.St) (H : Hp) (Q : VK) (s : StOk X.K wd.dr F ρ σ H ad)
    (q : (r.bind fun ds => comp2R cf src cf1 f ds []).wp (fun ds => ∀ a vs H', Grow wd.dr H H' → H a = none → H' a = some (.lst vs) → Reps X.K (fun b => Ban F ρ ad b ∨ b = a) H' vs ds → Q (.ref a) H') (XP X wd F ρ ad H)) :
    tLc2 (BI X tg iter) (gName i) (bT X scope ifs) (bI X scope tg1 iter1) (gName j) (bT X scope ifs1) (bE X scope elt) [i, j] [j] σ H Q := by
  rw [wp_bind] at q
  refine hi F ad σ H _ s (wp_mono (fun ds q J H1 g1 hJ => ?_) (fun _ _ z => z) q)
  intro Dn hDn
  have hDn0 := free_grow s g1 hDn
  have s1 := s.grow g1
  generalize hF' : (fun b => F b ∨ b = Dn) = F'
  have FF : ∀ b, Ban F ρ ad b → Ban F' ρ ad b := by
    rintro b (z | z)
    · subst hF'; exact .inl (.inl z)
    · exact .inr z
  have FD : Ban F' ρ ad Dn := by subst hF'; exact .inl (.inr rfl)
  have FN : ∀ b, Ban F' ρ ad b → Ban F ρ ad b ∨ H1 b = none := by
    subst hF'
    rintro b ((z | rfl) | z)
    · exact .inl (.inl z)
    · exact .inr hDn
    · exact .inl (.inr z)
  have sF : ∀ {H' : Hp} {xs : List V}, Grow wd.dr H1 H' → H' Dn = some (.lst xs) → StOk X.K wd.dr F' ρ σ H' ad := fun g e => by subst hF'; exact s1.newF hDn g e fun _ z => nomatch z
  obtain ⟨Vd, v0, vS, vG, vY, vE⟩ := hJ (Ban F' ρ ad) FN FF
  have gD : ∀ {o}, Grow wd.dr H1 (upd H1 Dn o) := fun {o} => Grow.same (same_upd hDn)
  have dne : ¬ Has wd.dr Dn := fun z => by
    obtain ⟨o, e, _⟩ := s1.banned (s1.drF z)
    rw [hDn] at e; cases e
  generalize hQ : (fun (ds : List D) => ∀ (a : Addr) (vs : List V) (H' : Hp), Grow wd.dr H H' → H a = none → H' a = some (.lst vs) → Reps X.K (fun b => Ban F ρ ad b ∨ b = a) H' vs ds → Q (.ref a) H') = QQ at q
  -- a list's place beside what is done
  have push : ∀ {H4 : Hp} {vsD : List V} {acc : List D} {v : V} {d : D}, Grow wd.dr H1 H4 → H4 Dn = some (.lst vsD) → Reps X.K (Ban F' ρ ad) H4 vsD acc → Rep X.K (Ban F' ρ ad) H4 v d → Grow wd.dr H1 (upd H4 Dn (.lst (vsD ++ [v]))) ∧ Reps X.K (Ban F' ρ ad) (upd H4 Dn (.lst (vsD ++ [v]))) (vsD ++ [v]) (acc ++ [d]) := fun {H4 vsD acc v d} g e r rv => by
    refine ⟨g.updNew hDn, (r.append (.cons rv .nil)).stay fun b o eb nb => ?_⟩
    rw [upd_ne fun z => nb (by rw [z]; exact FD)]
    exact eb
  generalize hIn : (fun (n : Nat) (H' : Hp) => Grow wd.dr H1 H' ∧ Vd H' ∧ ∃ acc vsD, H' Dn = some (.lst vsD) ∧ Reps X.K (Ban F' ρ ad) H' vsD acc ∧ (comp2R cf src cf1 f (ds.drop n) acc).wp QQ (XP X wd F ρ ad H)) = In
  refine ⟨fun n m H' => m = ds.length - n ∧ n ≤ ds.length ∧ In n H', ⟨ds.length, rfl, Nat.zero_le _, by subst hIn; exact ⟨gD, vS _ _ v0 gD, [], [], upd_same, .nil, q⟩⟩, ?_⟩
  rintro n m H' ⟨rfl, hn, hI⟩
  have hI' := hI
  rw [← hIn] at hI'
  obtain ⟨g2, vd, acc, vsD, eD, rD, q⟩ := hI'
  by_cases hlt : n < ds.length
  · refine .inr ⟨vG _ _ vd hlt, In (n + 1), fun H'' z => ⟨ds.length - (n + 1), by omega, rfl, hlt, z⟩, ?_⟩
    intro x H'' yy
    obtain ⟨sm, rx⟩ := vY _ _ _ _ ds[n] vd yy (List.getElem?_eq_getElem hlt)
    have g3 : Grow wd.dr H1 H'' := g2.trans (Grow.same sm)
    have eD3 := sm _ _ eD
    have s3r : StOk X.K wd.dr F' ρ σ H'' ad := sF g3 eD3
    have s3 : StOk X.K wd.dr F' (wipeS ρ [i, j]) (wipe σ [i, j]) H'' ad := s3r.wiped
    have wb : ∀ b, Ban F' (wipeS ρ [i, j]) ad b → Ban F' ρ ad b := by
      rintro b (b | ⟨i, o, e⟩)
      · exact .inl b
      · exact .inr ⟨i, wipeS_own o, e⟩
    rw [List.drop_eq_getElem_cons hlt] at q
    have vd3 := vS _ _ vd (Grow.same sm)
    have rD3 := rD.stay (same_stay sm)
    generalize ds[n] = d at q rx yy
    have s4 := s3.set (i := i) (rx.weak wb)
    have bw : ∀ b, Ban F' ρ ad b → Ban F' ((wipeS ρ [i, j]).set i (.d d)) ad b := by
      rintro b (z | ⟨u, o, e⟩)
      · exact .inl z
      · have hu : u ≠ i := fun z => hno (by rw [← z]; exact o)
        have hu2 : u ≠ j := fun z => hno2 (by rw [← z]; exact o)
        exact .inr ⟨u, set_own (own_wipeS (by simp [hu, hu2]) o) hu, e⟩
    have wi : wipe ((wipe σ [i, j]).set i (some x)) [i, j] = wipe σ [i, j] := by
      rw [wipe_set_comm (by simp)]
      exact wipe_idem [i, j] [i, j] fun _ h => h
    refine ⟨wi, ?_⟩
    unfold comp2R at q
    rw [wp_bind] at q
    -- behind the first tests
    have key : ∀ (b : Bool) (H3 : Hp), Grow wd.dr H'' H3 → (if b = true then (nx (src d)).bind fun ds1 => (compR (cf1 d) (f d) ds1 acc).bind fun acc => comp2R cf src cf1 f (ds.drop (n + 1)) acc else comp2R cf src cf1 f (ds.drop (n + 1)) acc).wp QQ (XP X wd F ρ ad H) →
        (if b = true then bI X scope tg1 iter1 ((wipe σ [i, j]).set i (some x)) H3 fun J1 H4 => ∃ W1 : Nat → Nat → Hp → Prop, (∃ m, W1 0 m H4) ∧ ∀ u k H, W1 u k H →
          (J1.stop u H ∧ In (n + 1) H) ∨ (J1.go u H ∧ ∃ Nx1 : Hp → Prop, (∀ H', Nx1 H' → ∃ k', k' < k ∧ W1 (u + 1) k' H') ∧ ∀ x' H', J1.yld u H x' H' → gName j x' (wipe ((wipe σ [i, j]).set i (some x)) [j]) H' fun σ3 H5 => wipe σ3 [j] = wipe ((wipe σ [i, j]).set i (some x)) [j] ∧ bT X scope ifs1 σ3 H5 fun b H6 =>
            if b = true then bE X scope elt σ3 H6 fun y H7 => ∃ acc, H7 Dn = some (.lst acc) ∧ acc.length < sizeLine ∧ Nx1 (upd H7 Dn (.lst (acc ++ [y]))) else Nx1 H6) else In (n + 1) H3) := by
      intro b H3 g4 q
      have eD4 := g4.keep _ _ eD3 dne
      have rD4 := rD3.stay (s3r.stays g4)
      have vd4 := vS _ _ vd3 g4
      cases b with
      | false => subst hIn; exact iteF ⟨g3.trans g4, vd4, acc, vsD, eD4, rD4, q⟩
      | true =>
        refine iteT fun s0 H0 C cl fp => ?_
        have q : ((nx (src d)).bind fun ds1 => (compR (cf1 d) (f d) ds1 acc).bind fun acc => comp2R cf src cf1 f (ds.drop (n + 1)) acc).wp QQ (XP X wd F ρ ad H) := q
        rw [wp_bind] at q
        have s5 := s4.grow g4
        refine hel.it d s0 H0 C cl fp F' ad _ H3 _ s5 (xp_false (wp_nx (E := fun _ _ => False) (wp_nx' (E := XP X wd F ρ ad H) (wp_mono (fun ds1 q J1 H4 g5 hJ1 => ?_) (fun _ _ z => z) q))))
        obtain ⟨Vd1, w0, wS, wG, wY, wE⟩ := hJ1 (Ban F' ρ ad) (fun b z => .inl (bw b z)) fun b z => by
          rcases z with z | ⟨u, o, e⟩
          · exact .inl z
          · exact wb b (.inr ⟨u, (own_set o).1, e⟩)
        have g45 := g4.trans g5
        have eD5 := g5.keep _ _ eD4 dne
        have rD5 := rD4.stay ((s3r.grow g4).stays g5)
        have vd5 := vS _ _ vd4 g5
        have g05 : Grow wd.dr H1 H4 := g3.trans g45
        have rx5 : Rep X.K (Ban F' ρ ad) H4 x d := (rx.stay (s3r.stays g4)).stay ((s3r.grow g4).stays g5)
        generalize hIn1 : (fun (u : Nat) (H' : Hp) => Grow wd.dr H1 H' ∧ Vd H' ∧ Vd1 H' ∧ Rep X.K (Ban F' ρ ad) H' x d ∧ ∃ acc vsD, H' Dn = some (.lst vsD) ∧ Reps X.K (Ban F' ρ ad) H' vsD acc ∧
          ((compR (cf1 d) (f d) (ds1.drop u) acc).bind fun acc => comp2R cf src cf1 f (ds.drop (n + 1)) acc).wp QQ (XP X wd F ρ ad H)) = In1
        refine ⟨fun u m H' => m = ds1.length - u ∧ u ≤ ds1.length ∧ In1 u H', ⟨ds1.length, rfl, Nat.zero_le _, by subst hIn1; exact ⟨g05, vd5, w0, rx5, acc, vsD, eD5, rD5, q⟩⟩, ?_⟩
        rintro u m Hx ⟨rfl, hu, hI1⟩
        have hI1' := hI1
        rw [← hIn1] at hI1'
        obtain ⟨gx1, vdx, v1x, rxx, acc1, vs1, e1, r1, q⟩ := hI1'
        by_cases hlt1 : u < ds1.length
        · refine .inr ⟨wG _ _ v1x hlt1, In1 (u + 1), fun H'' z => ⟨ds1.length - (u + 1), by omega, rfl, hlt1, z⟩, ?_⟩
          intro x' Hy yy1
          obtain ⟨sm1, rx1⟩ := wY _ _ _ _ ds1[u] v1x yy1 (List.getElem?_eq_getElem hlt1)
          have gs1 : Grow wd.dr Hx Hy := Grow.same sm1
          have e2 := sm1 _ _ e1
          have r2 := r1.stay (same_stay sm1)
          have gy1 : Grow wd.dr H1 Hy := gx1.trans gs1
          have sY := sF gy1 e2
          have rxy : Rep X.K (Ban F' ρ ad) Hy x d := rxx.stay (same_stay sm1)
          have vdy := vS _ _ vdx gs1
          have v1y := wS _ _ v1x (same_stay sm1)
          rw [List.drop_eq_getElem_cons hlt1] at q
          generalize ds1[u] = d1 at q rx1 yy1
          have wb2 : ∀ b, Ban F' ((wipeS ρ [i, j]).set i (.d d)) ad b → Ban F' ρ ad b := fun b z => by
            rcases z with z | ⟨u, o, e⟩
            · exact .inl z
            · exact wb b (.inr ⟨u, (own_set o).1, e⟩)
          have sy : StOk X.K wd.dr F' ((wipeS ρ [i, j]).set i (.d d)) ((wipe σ [i, j]).set i (some x)) Hy ad := (sY.wiped (vs := [i, j])).set (i := i) (rxy.weak wb)
          have sz : StOk X.K wd.dr F' (((wipeS ρ [i, j]).set i (.d d)).set j (.d d1)) ((wipe ((wipe σ [i, j]).set i (some x)) [j]).set j (some x')) Hy ad := by
            have h := sy.set (i := j) (rx1.weak wb2)
            have e : (wipe ((wipe σ [i, j]).set i (some x)) [j]).set j (some x') = ((wipe σ [i, j]).set i (some x)).set j (some x') := by
              show (((wipe σ [i, j]).set i (some x)).set j none).set j (some x') = _
              rw [List.set_set]
            rw [e]
            exact h
          refine ⟨by rw [wipe_set_comm (by simp)]; exact wipe_idem [j] [j] fun _ h => h, ?_⟩
          have bw2 : ∀ b, Ban F' ρ ad b → Ban F' (((wipeS ρ [i, j]).set i (.d d)).set j (.d d1)) ad b := by
            intro b z
            rcases bw b z with z | ⟨u, o, e⟩
            · exact .inl z
            · by_cases hu : u = j
              · subst hu
                exact absurd (wipeS_own (own_set o).1) hno2
              · exact .inr ⟨u, set_own o hu, e⟩
          unfold compR at q
          rw [bind_assoc, wp_bind] at q
          have key1 : ∀ (b : Bool) (H6 : Hp), Grow wd.dr Hy H6 → ((if b = true then (nx (f d d1)).bind (fun y => if acc1.length < sizeLine then compR (cf1 d) (f d) (ds1.drop (u + 1)) (acc1 ++ [y]) else bad) else compR (cf1 d) (f d) (ds1.drop (u + 1)) acc1).bind fun acc => comp2R cf src cf1 f (ds.drop (n + 1)) acc).wp QQ (XP X wd F ρ ad H) →
              (if b = true then bE X scope elt ((wipe ((wipe σ [i, j]).set i (some x)) [j]).set j (some x')) H6 fun y H7 => ∃ acc, H7 Dn = some (.lst acc) ∧ acc.length < sizeLine ∧ In1 (u + 1) (upd H7 Dn (.lst (acc ++ [y]))) else In1 (u + 1) H6) := by
            intro b H6 g6 q
            have g16 := gy1.trans g6
            have e3 := g6.keep _ _ e2 dne
            have st6 := sY.stays g6
            have r3 := r2.stay st6
            have vd6 := vS _ _ vdy g6
            have v16 := wS _ _ v1y st6
            have rx6 := rxy.stay st6
            cases b with
            | false => subst hIn1; exact iteF ⟨g16, vd6, v16, rx6, acc1, vs1, e3, r3, q⟩
            | true =>
              refine iteT fun s0 H0 C cl fp => ?_
              have q : ((nx (f d d1)).bind (fun y => if acc1.length < sizeLine then compR (cf1 d) (f d) (ds1.drop (u + 1)) (acc1 ++ [y]) else bad)).bind (fun acc => comp2R cf src cf1 f (ds.drop (n + 1)) acc) |>.wp QQ (XP X wd F ρ ad H) := q
              rw [bind_assoc, wp_bind] at q
              refine hel.el d d1 s0 H0 C cl fp F' ad _ H6 _ (sz.grow g6) (xp_false (wp_nx (E := fun _ _ => False) (wp_nx' (E := XP X wd F ρ ad H) (wp_mono (fun y q v H7 g7 rv => ?_) (fun _ _ z => z) q))))
              by_cases hz : acc1.length < sizeLine
              · rw [if_pos hz] at q
                have e4 := g7.keep _ _ e3 dne
                have st7 := (sY.grow g6).stays g7
                have r4 := r3.stay st7
                have rv' : Rep X.K (Ban F' ρ ad) H7 v y := rv.weak bw2
                have g17 := g16.trans g7
                obtain ⟨g18, r5⟩ := push g17 e4 r4 rv'
                have st8 : Stay (Ban F' ρ ad) H7 (upd H7 Dn (.lst (vs1 ++ [v]))) := fun b o eb nb => by
                  rw [upd_ne fun z => nb (by rw [z]; exact FD)]
                  exact eb
                refine ⟨vs1, e4, by rw [r4.length]; exact hz, ?_⟩
                subst hIn1
                exact ⟨g18, vS _ _ v0 g18, wS _ _ (wS _ _ v16 st7) st8, (rx6.stay st7).stay st8, acc1 ++ [y], vs1 ++ [v], upd_same, r5, q⟩
              · rw [if_neg hz] at q; exact q.elim
          cases ifs1 with
          | nil =>
            have et := hel.ts1 d d1
            simp only at et
            rw [et] at q
            exact key1 true Hy (Grow.refl _ _) q
          | cons t ts =>
            intro s0 H0 C cl fp
            exact hel.ts1 d d1 s0 H0 C cl fp F' ad _ Hy _ sz (xp_false (wp_nx (E := fun _ _ => False) (wp_nx' (E := XP X wd F ρ ad H) (wp_mono (fun b q H6 g6 => key1 b H6 g6 q) (fun _ _ z => z) q))))
        · have e : u = ds1.length := by omega
          subst e
          rw [List.drop_length] at q
          have q : (comp2R cf src cf1 f (ds.drop (n + 1)) acc1).wp QQ (XP X wd F ρ ad H) := q
          refine .inl ⟨wE _ v1x, ?_⟩
          subst hIn
          exact ⟨gx1, vdx, acc1, vs1, e1, r1, q⟩
    cases ifs with
    | nil =>
      have et := hel.ts d
      simp only at et
      rw [et] at q
      exact key true H'' (Grow.refl _ _) q
    | cons t ts =>
      intro s0 H0 C cl fp
      exact hel.ts d s0 H0 C cl fp F' ad _ H'' _ s4 (xp_false (wp_nx (E := fun _ _ => False) (wp_nx' (E := XP X wd F ρ ad H) (wp_mono (fun b q H3 g4 => key b H3 g4 q) (fun _ _ z => z) q))))
  · have e : n = ds.length := by omega
    subst e
    rw [List.drop_length] at q
    have q : QQ acc := q
    subst hQ
    exact .inl ⟨vE _ vd, q _ _ _ (g1.trans g2) hDn0 eD (rD.weak fun b z => by
      rcases z with z | rfl
      · exact FF _ z
      · exact FD)⟩
end
section
variable {CX : CXT} {k : Nat} {wd : Wd} {N : List Str} {sc : Scope} {X : Cx} {ρ : List Sl} {e a b tg iter tg1 iter1 elt t : Expr} {pos p px py : Pos} {x y : Str} {i j : Nat} {sl sl2 : Sl}
theorem own2_not {i j : Nat} (hno : ρ[i]? = some sl) (hno2 : ρ[j]? = some sl2) (hsl : sl.own = false) (hsl2 : sl2.own = false) : ¬ Own ρ i ∧ ¬ Own ρ j := ⟨not_own hno hsl, not_own hno2 hsl2⟩
theorem pe2_core [Calm wd] (c : Cw CX k wd N sc X) {scope : Scope} {ifs ifs1 : List Expr} (hok : blkC N sc scope [(x, i), (y, j)] = true) (hN : N[i]? = some x) (hx : tgB scope sc x = true) (hN2 : N[j]? = some y) (hy : tgB scope sc y = true) (hl : ifs.length ≤ 1) (hl1 : ifs1.length ≤ 1)
    (hs : ∀ x, foldedSetIterable iter X.env x = pure x) (hs1 : ∀ env x, foldedSetIterable iter1 env x = pure x) :
    PE X (.ListComp elt [⟨.Name x px, iter, ifs, 0⟩, ⟨.Name y py, iter1, ifs1, 0⟩] scope pos) (tLc2 (BI X (.Name x px) iter) (gName i) (bT X scope ifs) (bI X scope (.Name y py) iter1) (gName j) (bT X scope ifs1) (bE X scope elt) [i, j] [j]) :=
  pe_lc2 (own := [(x, i), (y, j)]) c.calm (by rw [c.hN]; exact c.nd) pi_b (by rw [c.hN, c.hs]; exact blkOk_by hok) (by simp) (blkg_name c hN hx) (bT_pts hl) bI_pi (blkg_name c hN2 hy) (bT_pts hl1) bE_pe hs hs1
/-- [elt for x in iter for y in iter1] -/
theorem evl_comp2 [Calm wd] (c : Cw CX k wd N sc X) {scope : Scope} {src : D → R (List D)} {f : D → D → R D} {r : R (List D)} (hok : blkC N sc scope [(x, i), (y, j)] = true) (hN : N[i]? = some x) (hx : tgB scope sc x = true) (hN2 : N[j]? = some y) (hy : tgB scope sc y = true) (hij : (i != j) = true) (hno : ρ[i]? = some sl) (hsl : sl.own = false) (hno2 : ρ[j]? = some sl2) (hsl2 : sl2.own = false)
    (hi : EvJ X wd ρ (.Name x px) iter r) (hit : ∀ d s0 H0 C cl fp, EvI (X.blk s0 H0 scope (compEnvC scope cl C X.env) fp) wd.calm ((wipeS ρ [i, j]).set i (.d d)) (.Name y py) iter1 (src d))
    (hel : ∀ d e s0 H0 C cl fp, Ev (X.blk s0 H0 scope (compEnvC scope cl C X.env) fp) wd.calm (((wipeS ρ [i, j]).set i (.d d)).set j (.d e)) elt (f d e)) (hs : ∀ x, foldedSetIterable iter X.env x = pure x := by exact fun _ => rfl) (hs1 : ∀ env x, foldedSetIterable iter1 env x = pure x := by exact fun _ _ => rfl) :
    EvL X wd ρ (.ListComp elt [⟨.Name x px, iter, [], 0⟩, ⟨.Name y py, iter1, [], 0⟩] scope pos) (r.bind fun ds => comp2R (fun _ => R.ret true) src (fun _ _ => R.ret true) f ds []) := fun F ad σ H Q s q =>
  be (pe2_core c hok hN hx hN2 hy (Nat.zero_le _) (Nat.zero_le _) hs hs1) (l2_read hi (by simpa using hij) (own2_not hno hno2 hsl hsl2).1 (own2_not hno hno2 hsl hsl2).2 ⟨fun _ => by rfl, hit, fun _ _ => by rfl, hel⟩ F ad σ H Q s q)
/-- .. if t behind the second -/
theorem evl_comp2if [Calm wd] (c : Cw CX k wd N sc X) {scope : Scope} {src : D → R (List D)} {cf : D → D → R Bool} {f : D → D → R D} {r : R (List D)} (hok : blkC N sc scope [(x, i), (y, j)] = true) (hN : N[i]? = some x) (hx : tgB scope sc x = true) (hN2 : N[j]? = some y) (hy : tgB scope sc y = true) (hij : (i != j) = true) (hno : ρ[i]? = some sl) (hsl : sl.own = false) (hno2 : ρ[j]? = some sl2) (hsl2 : sl2.own = false)
    (hi : EvJ X wd ρ (.Name x px) iter r) (hit : ∀ d s0 H0 C cl fp, EvI (X.blk s0 H0 scope (compEnvC scope cl C X.env) fp) wd.calm ((wipeS ρ [i, j]).set i (.d d)) (.Name y py) iter1 (src d))
    (ht : ∀ d e s0 H0 C cl fp, EvT (X.blk s0 H0 scope (compEnvC scope cl C X.env) fp) wd.calm (((wipeS ρ [i, j]).set i (.d d)).set j (.d e)) t (cf d e))
    (hel : ∀ d e s0 H0 C cl fp, Ev (X.blk s0 H0 scope (compEnvC scope cl C X.env) fp) wd.calm (((wipeS ρ [i, j]).set i (.d d)).set j (.d e)) elt (f d e)) (hs : ∀ x, foldedSetIterable iter X.env x = pure x := by exact fun _ => rfl) (hs1 : ∀ env x, foldedSetIterable iter1 env x = pure x := by exact fun _ _ => rfl) :
    EvL X wd ρ (.ListComp elt [⟨.Name x px, iter, [], 0⟩, ⟨.Name y py, iter1, [t], 0⟩] scope pos) (r.bind fun ds => comp2R (fun _ => R.ret true) src cf f ds []) := fun F ad σ H Q s q =>
  be (pe2_core c hok hN hx hN2 hy (Nat.zero_le _) (Nat.le_refl _) hs hs1) (l2_read hi (by simpa using hij) (own2_not hno hno2 hsl hsl2).1 (own2_not hno hno2 hsl hsl2).2 ⟨fun _ => by rfl, hit, fun d e => by exact ht d e, hel⟩ F ad σ H Q s q)
end
section
variable {CX : CXT} {k : Nat} {wd : Wd} {N : List Str} {sc : Scope} {X : Cx} {S B T : Type} {eS : S → List Sl} {eB : B → List Sl} {eT : T → List Sl} {ρ : List Sl} {iter iter1 elt t : Expr} {rest : List Stmt} {pos p px py : Pos} {x y z : Str} {i j l : Nat} {sl sl2 : Sl}
theorem ps_comp2 [Calm wd] (c : Cd CX k wd N sc X) {scope : Scope} {ifs ifs1 : List Expr} {spos : Pos} (hz : swB sc scope z p.line pos.line = true) (hNz : N[l]? = some z) (hok : blkC N sc scope [(x, i), (y, j)] = true) (hN : N[i]? = some x) (hx : tgB scope sc x = true) (hN2 : N[j]? = some y) (hy : tgB scope sc y = true) (hl : ifs.length ≤ 1) (hl1 : ifs1.length ≤ 1)
    (hs : ∀ x, foldedSetIterable iter X.env x = pure x) (hs1 : ∀ env x, foldedSetIterable iter1 env x = pure x) :
    PS X (.Assign [.Name z p] (.ListComp elt [⟨.Name x px, iter, ifs, 0⟩, ⟨.Name y py, iter1, ifs1, 0⟩] scope pos) spos) (tAsg (tLc2 (BI X (.Name x px) iter) (gName i) (bT X scope ifs) (bI X scope (.Name y py) iter1) (gName j) (bT X scope ifs1) (bE X scope elt) [i, j] [j]) (gName l)) := by
  have hz1 : X.env.scope.names.lookup z = some .local := by
    rw [c.hs]
    unfold swB at hz
    rw [Bool.and_eq_true, Bool.and_eq_true] at hz
    exact locB_eq hz.1.1
  exact ps_setLc2 (own := [(x, i), (y, j)]) c.calm c.nd' (c.at hNz) hz1 (swaps_of c hz) pi_b (by rw [c.hN, c.hs]; exact blkOk_by hok) (by simp) (blkg_name c.toCw hN hx) (bT_pts hl) bI_pi (blkg_name c.toCw hN2 hy) (bT_pts hl1) bE_pe hs hs1
theorem run_setC2 [Calm wd] (c : Cd CX k wd N sc X) {scope : Scope} {spos : Pos} {src : D → R (List D)} {f : D → D → R D} {r : R (List D)} {o : List D → R (Out S B T)} (hz : swB sc scope z p.line pos.line = true) (hNz : N[l]? = some z) (hok : blkC N sc scope [(x, i), (y, j)] = true) (hN : N[i]? = some x) (hx : tgB scope sc x = true) (hN2 : N[j]? = some y) (hy : tgB scope sc y = true) (hij : (i != j) = true) (hno : ρ[i]? = some sl) (hsl : sl.own = false) (hno2 : ρ[j]? = some sl2) (hsl2 : sl2.own = false)
    (hi : EvJ X wd ρ (.Name x px) iter r) (hit : ∀ d s0 H0 C cl fp, EvI (X.blk s0 H0 scope (compEnvC scope cl C X.env) fp) wd.calm ((wipeS ρ [i, j]).set i (.d d)) (.Name y py) iter1 (src d))
    (hel : ∀ d e s0 H0 C cl fp, Ev (X.blk s0 H0 scope (compEnvC scope cl C X.env) fp) wd.calm (((wipeS ρ [i, j]).set i (.d d)).set j (.d e)) elt (f d e)) (hr : ∀ ds, Run X wd eS eB eT (ρ.set l (.d (.list ds))) rest (o ds)) (hs : ∀ x, foldedSetIterable iter X.env x = pure x := by exact fun _ => rfl) (hs1 : ∀ env x, foldedSetIterable iter1 env x = pure x := by exact fun _ _ => rfl) :
    Run X wd eS eB eT ρ (.Assign [.Name z p] (.ListComp elt [⟨.Name x px, iter, [], 0⟩, ⟨.Name y py, iter1, [], 0⟩] scope pos) spos :: rest) ((r.bind fun ds => comp2R (fun _ => R.ret true) src (fun _ _ => R.ret true) f ds []).bind o) :=
  setF_core (ps_comp2 c hz hNz hok hN hx hN2 hy (Nat.zero_le _) (Nat.zero_le _) hs hs1) (fun F ad σ H Q s q => l2_read hi (by simpa using hij) (own2_not hno hno2 hsl hsl2).1 (own2_not hno hno2 hsl hsl2).2 ⟨fun _ => by rfl, hit, fun _ _ => by rfl, hel⟩ F ad σ H Q s q) hr
theorem run_setC2if [Calm wd] (c : Cd CX k wd N sc X) {scope : Scope} {spos : Pos} {src : D → R (List D)} {cf : D → D → R Bool} {f : D → D → R D} {r : R (List D)} {o : List D → R (Out S B T)} (hz : swB sc scope z p.line pos.line = true) (hNz : N[l]? = some z) (hok : blkC N sc scope [(x, i), (y, j)] = true) (hN : N[i]? = some x) (hx : tgB scope sc x = true) (hN2 : N[j]? = some y) (hy : tgB scope sc y = true) (hij : (i != j) = true) (hno : ρ[i]? = some sl) (hsl : sl.own = false) (hno2 : ρ[j]? = some sl2) (hsl2 : sl2.own = false)
    (hi : EvJ X wd ρ (.Name x px) iter r) (hit : ∀ d s0 H0 C cl fp, EvI (X.blk s0 H0 scope (compEnvC scope cl C X.env) fp) wd.calm ((wipeS ρ [i, j]).set i (.d d)) (.Name y py) iter1 (src d))
    (ht : ∀ d e s0 H0 C cl fp, EvT (X.blk s0 H0 scope (compEnvC scope cl C X.env) fp) wd.calm (((wipeS ρ [i, j]).set i (.d d)).set j (.d e)) t (cf d e))
    (hel : ∀ d e s0 H0 C cl fp, Ev (X.blk s0 H0 scope (compEnvC scope cl C X.env) fp) wd.calm (((wipeS ρ [i, j]).set i (.d d)).set j (.d e)) elt (f d e)) (hr : ∀ ds, Run X wd eS eB eT (ρ.set l (.d (.list ds))) rest (o ds)) (hs : ∀ x, foldedSetIterable iter X.env x = pure x := by exact fun _ => rfl) (hs1 : ∀ env x, foldedSetIterable iter1 env x = pure x := by exact fun _ _ => rfl) :
    Run X wd eS eB eT ρ (.Assign [.Name z p] (.ListComp elt [⟨.Name x px, iter, [], 0⟩, ⟨.Name y py, iter1, [t], 0⟩] scope pos) spos :: rest) ((r.bind fun ds => comp2R (fun _ => R.ret true) src cf f ds []).bind o) :=
  setF_core (ps_comp2 c hz hNz hok hN hx hN2 hy (Nat.zero_le _) (Nat.le_refl _) hs hs1) (fun F ad σ H Q s q => l2_read hi (by simpa using hij) (own2_not hno hno2 hsl hsl2).1 (own2_not hno hno2 hsl hsl2).2 ⟨fun _ => by rfl, hit, fun d e => by exact ht d e, hel⟩ F ad σ H Q s q) hr
end
end Pu
/-! Pp: plain reasoning about results: what a mirror comes to. -/
namespace Pu
open PySem R
/-- (no rfl rules: the kernel is to follow the congruences) -/
theorem rb {α β : Type} (a : α) (f : α → R β) : (R.ret a).bind f = f a := Eq.trans rfl rfl
theorem wr {α : Type} (Q : α → Prop) (E : Nat → D → Prop) (a : α) : wp Q E (R.ret a) = Q a := Eq.trans rfl rfl
/-- comes to Q, raises nothing (a structure: nothing is to be unfolded by looking at it) -/
structure Ok {α : Type} (r : R α) (Q : α → Prop) : Prop where
  w : r.wp Q fun _ _ => False
theorem okr {α : Type} {Q : α → Prop} (a : α) : Ok (R.ret a) Q = Q a := propext ⟨fun h => h.w, fun h => ⟨h⟩⟩
section
variable {α β γ S S' B T : Type} {Q P : α → Prop}
theorem ok_step {r : R α} {f : α → R β} {Q : β → Prop} (h : Ok r P) (k : ∀ a, P a → Ok (f a) Q) : Ok (r.bind f) Q := ⟨wp_bind.mpr (wp_mono (fun a p => (k a p).w) (fun _ _ z => z) h.w)⟩
theorem ok_mono {r : R α} (h : Ok r P) (k : ∀ a, P a → Q a) : Ok r Q := ⟨wp_mono k (fun _ _ z => z) h.w⟩
theorem ok_ret {a : α} (h : Q a) : Ok (R.ret a) Q := ⟨h⟩
theorem ok_draw {n : Int} {Q : D → Prop} (hn : 0 < n) (h : ∀ i, 0 ≤ i → i < n → Q (.int i)) : Ok (drawR (.int n)) Q := by
  refine ⟨?_⟩
  unfold drawR
  simp only [hn, if_true]
  exact h
theorem ok_eq {r : R α} {a : α} (e : r = R.ret a) (h : Q a) : Ok r Q := by rw [e]; exact ⟨h⟩
theorem ok_and {r : R α} (h : Ok r P) (k : Ok r Q) : Ok r fun a => P a ∧ Q a := by
  have key : ∀ r : R α, r.wp P (fun _ _ => False) → r.wp Q (fun _ _ => False) → r.wp (fun a => P a ∧ Q a) (fun _ _ => False) := by
    intro r
    induction r with
    | ret a => exact fun h k => ⟨h, k⟩
    | exc c x => exact fun h _ => h
    | bad => exact fun h _ => h
    | pick n f ih => exact fun h k i a b => ih i (h i a b) (k i a b)
  exact ⟨key r h.w k.w⟩
theorem nx_ok {r : R α} {E : Nat → D → Prop} (h : Ok r Q) : (nx r).wp Q E := by
  have key : ∀ r : R α, r.wp Q (fun _ _ => False) → (nx r).wp Q E := by
    intro r
    induction r with
    | ret a => exact fun h => h
    | exc c x => exact fun h => h.elim
    | bad => exact fun h => h.elim
    | pick n f ih => exact fun h i a b => ih i (h i a b)
  exact key r h.w
theorem ok_seq {r : R (Out S B T)} {f : S → R (Out S' B T)} {Q : Out S' B T → Prop} (h : Ok r fun o => match o with
    | .nx s => Ok (f s) Q
    | .bk b => Q (.bk b)
    | .ct b => Q (.ct b)
    | .rt d t => Q (.rt d t)) : Ok (seqR r f) Q := by
  refine ok_step h fun o h => ?_
  cases o with
  | nx s => exact h
  | bk b => exact ⟨h⟩
  | ct b => exact ⟨h⟩
  | rt d t => exact ⟨h⟩
theorem ok_end {r : R (Out Unit Empty T)} {Q : D → Prop} (h : Ok r fun o => match o with
    | .nx _ => Q .none
    | .rt d _ => Q d
    | .bk b => True
    | .ct b => True) : Ok (endR0 r) Q := by
  refine ok_step h fun o h => ?_
  cases o with
  | nx s => exact ⟨h⟩
  | rt d t => exact ⟨h⟩
  | bk b => exact b.elim
  | ct b => exact b.elim
theorem ok_up {r : R (Out Empty B T)} {Q : Out S B T → Prop} (h : Ok r fun o => match o with
    | .nx s => True
    | .bk b => Q (.bk b)
    | .ct b => Q (.ct b)
    | .rt d t => Q (.rt d t)) : Ok (up r) Q := by
  refine ok_step h fun o h => ?_
  cases o with
  | nx s => exact s.elim
  | bk b => exact ⟨h⟩
  | ct b => exact ⟨h⟩
  | rt d t => exact ⟨h⟩
theorem ok_for {f : α → S → R (Out S S T)} {Q : Out S B T → Prop} {Inv : Nat → S → Prop} : ∀ {ds : List α} {s : S} (i : Nat), Inv i s →
    (∀ (j : Nat) (d : α) (s : S), ds[j]? = some d → Inv (i + j) s → Ok (f d s) fun o => match o with
      | .nx s' => Inv (i + j + 1) s'
      | .ct s' => Inv (i + j + 1) s'
      | .bk s' => Q (.nx s')
      | .rt d t => Q (.rt d t)) → (∀ s, Inv (i + ds.length) s → Q (.nx s)) → Ok (forR f ds s) Q
  | [], s, i, h0, hs, he => ⟨he s h0⟩
  | d :: ds, s, i, h0, hs, he => by
    unfold forR
    refine ok_step (hs 0 d s rfl h0) fun o h => ?_
    have go : ∀ s', Inv (i + 0 + 1) s' → Ok (forR f ds s') Q := fun s' h => ok_for (i + 1) h (fun j d s e hi => by
      have := hs (j + 1) d s (by simpa using e) (by rw [show i + (j + 1) = i + 1 + j by omega]; exact hi)
      rw [show i + (j + 1) + 1 = i + 1 + j + 1 by omega] at this
      exact this) fun s hi => he s (by rw [List.length_cons, show i + (ds.length + 1) = i + 1 + ds.length by omega]; exact hi)
    cases o with
    | nx s' => exact go s' h
    | ct s' => exact go s' h
    | bk s' => exact ⟨h⟩
    | rt d t => exact ⟨h⟩
/-- the same from the start -/
theorem ok_for0 {f : α → S → R (Out S S T)} {Q : Out S B T → Prop} {ds : List α} {s : S} (Inv : Nat → S → Prop) (h0 : Inv 0 s)
    (hs : ∀ (j : Nat) (d : α) (s : S), ds[j]? = some d → Inv j s → Ok (f d s) fun o => match o with
      | .nx s' => Inv (j + 1) s'
      | .ct s' => Inv (j + 1) s'
      | .bk s' => Q (.nx s')
      | .rt d t => Q (.rt d t)) (he : ∀ s, Inv ds.length s → Q (.nx s)) : Ok (forR f ds s) Q :=
  ok_for (Inv := Inv) 0 h0 (fun j d s e hi => by
    rw [Nat.zero_add] at hi ⊢
    exact hs j d s e hi) fun s hi => he s (by rw [Nat.zero_add] at hi; exact hi)
theorem rangeL_get {lo : Int} {n j : Nat} {d : D} (h : (rangeL lo n)[j]? = some d) : j < n ∧ d = .int (lo + j) := by
  unfold rangeL at h
  rw [List.getElem?_map] at h
  by_cases hj : j < n
  · rw [List.getElem?_range hj] at h
    cases h
    exact ⟨hj, rfl⟩
  · rw [List.getElem?_eq_none (by rw [List.length_range]; omega)] at h
    cases h
theorem rangeL_length {lo : Int} {n : Nat} : (rangeL lo n).length = n := by unfold rangeL; rw [List.length_map, List.length_range]
/-- for k in range(n) -/
theorem ok_range {f : D → S → R (Out S S T)} {Q : Out S B T → Prop} {n : Nat} {s : S} (Inv : Nat → S → Prop) (h0 : Inv 0 s)
    (hs : ∀ (j : Nat) (s : S), j < n → Inv j s → Ok (f (.int j) s) fun o => match o with
      | .nx s' => Inv (j + 1) s'
      | .ct s' => Inv (j + 1) s'
      | .bk s' => Q (.nx s')
      | .rt d t => Q (.rt d t)) (he : ∀ s, Inv n s → Q (.nx s)) : Ok (forR f (rangeL 0 n) s) Q :=
  ok_for0 Inv h0 (fun j d s e hi => by
    obtain ⟨hj, rfl⟩ := rangeL_get e
    rw [Int.zero_add]
    exact hs j s hj hi) fun s hi => he s (by rw [rangeL_length] at hi; exact hi)
/-! comprehensions -/
theorem comp_eq {f : α → R β} {g : α → β} : ∀ {ds : List α} {acc : List β}, (∀ d ∈ ds, f d = R.ret (g d)) → acc.length + ds.length ≤ sizeLine → compR (fun _ => R.ret true) f ds acc = R.ret (acc ++ ds.map g)
  | [], acc, _, _ => by unfold compR; simp
  | d :: ds, acc, h, hl => by
    unfold compR
    rw [List.length_cons] at hl
    rw [h d List.mem_cons_self]
    simp only [nx_ret, ret_bind, if_true]
    rw [if_pos (by omega), comp_eq (fun d hd => h d (List.mem_cons_of_mem _ hd)) (by rw [List.length_append]; simp only [List.length_cons, List.length_nil]; omega)]
    simp
theorem comp_range {f : D → R β} {g : Nat → β} {n : Nat} (hn : n ≤ sizeLine) (h : ∀ k : Nat, k < n → f (.int k) = R.ret (g k)) : compR (fun _ => R.ret true) f (rangeL 0 n) [] = R.ret ((List.range n).map g) := by
  have e : ∀ d ∈ rangeL 0 n, f d = R.ret ((fun d => match d with | .int k => g k.toNat | _ => g 0) d) := fun d hd => by
    unfold rangeL at hd
    obtain ⟨k, hk, rfl⟩ := List.mem_map.mp hd
    rw [Int.zero_add, h k (List.mem_range.mp hk)]
    rfl
  rw [comp_eq e (by rw [rangeL_length]; simpa using hn)]
  unfold rangeL
  rw [List.map_map, List.nil_append]
  congr 1
  apply List.map_congr_left
  intro k _
  show g ((0 : Int) + (k : Int)).toNat = g k
  congr 1
  omega
/-- with draws: every item comes to something that is P -/
theorem comp_ok {f : α → R β} {P : α → β → Prop} {Q : List β → Prop} : ∀ {ds : List α} {acc : List β}, (∀ d ∈ ds, Ok (f d) (P d)) → acc.length + ds.length ≤ sizeLine → (∀ ys, ys.length = ds.length → (∀ (i : Nat) (d : α) (y : β), ds[i]? = some d → ys[i]? = some y → P d y) → Q (acc ++ ys)) → Ok (compR (fun _ => R.ret true) f ds acc) Q
  | [], acc, _, _, k => by
    unfold compR
    have := k [] rfl (fun i d y e => by simp at e)
    rw [List.append_nil] at this
    exact ⟨this⟩
  | d :: ds, acc, h, hl, k => by
    unfold compR
    rw [List.length_cons] at hl
    simp only [nx_ret, ret_bind, if_true]
    refine ok_step (P := P d) ⟨nx_ok (h d List.mem_cons_self)⟩ fun y hy => ?_
    rw [if_pos (by omega)]
    refine comp_ok (fun d hd => h d (List.mem_cons_of_mem _ hd)) (by rw [List.length_append]; simp only [List.length_cons, List.length_nil]; omega) fun ys hy2 hp => ?_
    rw [List.append_assoc]
    refine k (y :: ys) (by rw [List.length_cons, List.length_cons, hy2]) fun i d' y' e1 e2 => ?_
    cases i with
    | zero => simp at e1 e2; subst e1 e2; exact hy
    | succ i => exact hp i d' y' (by simpa using e1) (by simpa using e2)
end
/-! ### stocks: tuples by places -/
def vecL (n : Nat) (s : Nat → Int) : List D := (List.range n).map fun k => PyData.int (s k)
def vec (n : Nat) (s : Nat → Int) : D := .tuple (vecL n s)
theorem vecL_length {n : Nat} {s : Nat → Int} : (vecL n s).length = n := by unfold vecL; rw [List.length_map, List.length_range]
theorem vecL_get {n k : Nat} {s : Nat → Int} (h : k < n) : (vecL n s)[k]? = some (.int (s k)) := by unfold vecL; rw [List.getElem?_map, List.getElem?_range h]; rfl
theorem vecL_congr {n : Nat} {a b : Nat → Int} (h : ∀ k, k < n → a k = b k) : vecL n a = vecL n b := List.map_congr_left fun k hk => by rw [h k (List.mem_range.mp hk)]
theorem vec_congr {n : Nat} {a b : Nat → Int} (h : ∀ k, k < n → a k = b k) : vec n a = vec n b := by unfold vec; rw [vecL_congr h]
theorem vecL_inj {n : Nat} {a b : Nat → Int} (h : vecL n a = vecL n b) (k : Nat) (hk : k < n) : a k = b k := by
  have e := congrArg (fun l : List D => l[k]?) h
  simp only [vecL_get hk] at e
  injection e with e
  injection e
theorem vec_inj {n : Nat} {a b : Nat → Int} (h : vec n a = vec n b) (k : Nat) (hk : k < n) : a k = b k := vecL_inj (by unfold vec at h; injection h) k hk
/-- a list of ints is one -/
theorem vecL_of (ns : List Int) : ns.map PyData.int = vecL ns.length fun k => ns.getD k 0 := by
  apply List.ext_getElem?
  intro i
  by_cases h : i < ns.length
  · rw [vecL_get h, List.getElem?_map, List.getElem?_eq_getElem h]
    simp [List.getD, List.getElem?_eq_getElem h]
  · rw [List.getElem?_eq_none (by rw [List.length_map]; omega), List.getElem?_eq_none (by rw [vecL_length]; omega)]
theorem at_nat {xs : List D} {k : Nat} {d : D} (h : xs[k]? = some d) : L2.atI xs (k : Int) = some d := L2.atI_nat h
theorem ix_tup {xs : List D} {k : Nat} {d : D} (h : xs[k]? = some d) : ixR (.tuple xs) (.int (k : Int)) = R.ret d := by show optR (L2.atI xs (k : Int)) = _; rw [at_nat h]; rfl
theorem ix_lst {xs : List D} {k : Nat} {d : D} (h : xs[k]? = some d) : ixR (.list xs) (.int (k : Int)) = R.ret d := by show optR (L2.atI xs (k : Int)) = _; rw [at_nat h]; rfl
theorem ix_vec {n k : Nat} {s : Nat → Int} (h : k < n) : ixR (vec n s) (.int (k : Int)) = R.ret (.int (s k)) := ix_tup (vecL_get h)
theorem ix_vecL {n k : Nat} {s : Nat → Int} (h : k < n) : ixR (.list (vecL n s)) (.int (k : Int)) = R.ret (.int (s k)) := ix_lst (vecL_get h)
theorem ix0 {x : D} {xs : List D} : ixR (.tuple (x :: xs)) (.int 0) = R.ret x := ix_tup (k := 0) rfl
theorem ix1 {x y : D} {xs : List D} : ixR (.tuple (x :: y :: xs)) (.int 1) = R.ret y := ix_tup (k := 1) rfl
theorem ix2 {x y z : D} {xs : List D} : ixR (.tuple (x :: y :: z :: xs)) (.int 2) = R.ret z := ix_tup (k := 2) rfl
theorem ix3 {x y z w : D} {xs : List D} : ixR (.tuple (x :: y :: z :: w :: xs)) (.int 3) = R.ret w := ix_tup (k := 3) rfl
theorem len_vec {n : Nat} {s : Nat → Int} : lenR (vec n s) = R.ret (.int n) := by show R.ret (PyData.int ((vecL n s).length : Nat)) = _; rw [vecL_length]
theorem len_vecL {n : Nat} {s : Nat → Int} : lenR (.list (vecL n s)) = R.ret (.int n) := by show R.ret (PyData.int ((vecL n s).length : Nat)) = _; rw [vecL_length]
theorem items_vec {n : Nat} {s : Nat → Int} : itemsR (vec n s) = R.ret (vecL n s) := Eq.trans rfl rfl
theorem rng_nat {n : Nat} (h : n < 4611686018427387904) : rng1R (.int (n : Int)) = R.ret (rangeL 0 n) := by
  have hc : -(2 ^ 62) ≤ (n : Int) ∧ (n : Int) < 2 ^ 62 := ⟨by omega, by omega⟩
  simp only [rng1R, hc, and_self, if_true, Int.toNat_natCast]
theorem comp_vec {β : Type} {f : D → R β} {g : Nat → β} {n : Nat} {s : Nat → Int} (hn : n ≤ sizeLine) (h : ∀ k : Nat, k < n → f (.int (s k)) = R.ret (g k)) : compR (fun _ => R.ret true) f (vecL n s) [] = R.ret ((List.range n).map g) := by
  have key : ∀ (l : List Nat) (acc : List β), (∀ k ∈ l, k < n) → acc.length + l.length ≤ sizeLine → compR (fun _ => R.ret true) f (l.map fun k => PyData.int (s k)) acc = R.ret (acc ++ l.map g) := by
    intro l
    induction l with
    | nil => intro acc _ _; simp [compR]
    | cons k l ih =>
      intro acc hl hz
      rw [List.map_cons]
      unfold compR
      rw [List.length_cons] at hz
      rw [h k (hl k List.mem_cons_self)]
      simp only [nx_ret, ret_bind, if_true]
      rw [if_pos (by omega), ih _ (fun k hk => hl k (List.mem_cons_of_mem _ hk)) (by rw [List.length_append]; simp only [List.length_cons, List.length_nil]; omega)]
      simp
  unfold vecL
  rw [key _ _ (fun k hk => List.mem_range.mp hk) (by rw [List.length_range]; simpa using hn), List.nil_append]
/-! ### the operations at their data -/
section
variable {i j : Int} {a b : Bool} {x y : Str} {xs ys : List D}
@[simp] theorem add_int : addR (.int i) (.int j) = R.ret (.int (i + j)) := Eq.trans rfl rfl
@[simp] theorem sub_int : subR (.int i) (.int j) = R.ret (.int (i - j)) := Eq.trans rfl rfl
@[simp] theorem neg_int : negR (.int i) = R.ret (.int (-i)) := Eq.trans rfl rfl
@[simp] theorem lt_int : ltR (.int i) (.int j) = R.ret (.bool (decide (i < j))) := Eq.trans rfl rfl
@[simp] theorem le_int : leR (.int i) (.int j) = R.ret (.bool (decide (i ≤ j))) := Eq.trans rfl rfl
@[simp] theorem gt_int : gtR (.int i) (.int j) = R.ret (.bool (decide (j < i))) := Eq.trans rfl rfl
@[simp] theorem ge_int : geR (.int i) (.int j) = R.ret (.bool (decide (j ≤ i))) := Eq.trans rfl rfl
@[simp] theorem max_int : maxR (.int i) (.int j) = R.ret (.int (if j > i then j else i)) := Eq.trans rfl rfl
@[simp] theorem min_int : minR (.int i) (.int j) = R.ret (.int (if j < i then j else i)) := Eq.trans rfl rfl
@[simp] theorem bool_b : boolR (.bool a) = R.ret a := Eq.trans rfl rfl
@[simp] theorem not_b : notR (.bool a) = R.ret (.bool (!a)) := Eq.trans rfl rfl
@[simp] theorem int_int : intR (.int i) = R.ret (.int i) := Eq.trans rfl rfl
@[simp] theorem abs_int : absR (.int i) = R.ret (.int (if i < 0 then -i else i)) := Eq.trans rfl rfl
@[simp] theorem part_int : partR (.int i) = R.ret (some i) := Eq.trans rfl rfl
@[simp] theorem tuple_l : tupleR (.list xs) = R.ret (.tuple xs) := Eq.trans rfl rfl
@[simp] theorem tuple_t : tupleR (.tuple xs) = R.ret (.tuple xs) := Eq.trans rfl rfl
@[simp] theorem list_l : listR (.list xs) = R.ret (.list xs) := Eq.trans rfl rfl
@[simp] theorem list_t : listR (.tuple xs) = R.ret (.list xs) := Eq.trans rfl rfl
@[simp] theorem len_l : lenR (.list xs) = R.ret (.int xs.length) := Eq.trans rfl rfl
@[simp] theorem len_t : lenR (.tuple xs) = R.ret (.int xs.length) := Eq.trans rfl rfl
@[simp] theorem items_l : itemsR (.list xs) = R.ret xs := Eq.trans rfl rfl
@[simp] theorem items_t : itemsR (.tuple xs) = R.ret xs := Eq.trans rfl rfl
theorem unp2_t {α : Type} {x y : D} {f : D → D → R α} : unp2 (.tuple [x, y]) f = f x y := Eq.trans rfl rfl
theorem unp3_t {α : Type} {x y z : D} {f : D → D → D → R α} : unp3 (.tuple [x, y, z]) f = f x y z := Eq.trans rfl rfl
theorem unp4_t {α : Type} {x y z w : D} {f : D → D → D → D → R α} : unp4 (.tuple [x, y, z, w]) f = f x y z w := Eq.trans rfl rfl
theorem mul_int (h : mulOk i j) : mulR (.int i) (.int j) = R.ret (.int (i * j)) := by simp only [mulR, h, if_true]
theorem mod_int (h : j ≠ 0) : modR (.int i) (.int j) = R.ret (.int (i.fmod j)) := by simp only [modR, h, ne_eq, not_false_eq_true, if_true]
theorem fdiv_int (h : j ≠ 0) (h2 : j.natAbs < fdLine) : fdivR (.int i) (.int j) = R.ret (.int (i.fdiv j)) := by
  have hc : CDivL i j := ⟨h, h2⟩
  simp only [fdivR, hc, if_true]
theorem fd_small {n : Nat} (h : n < 1073741824) : n < fdLine := Nat.lt_trans h (by unfold fdLine; decide)
theorem eq_int : eqR (.int i) (.int j) = R.ret (.bool (decide (i = j))) := by
  unfold eqR
  rw [if_pos ⟨by unfold SeqAt.shaped; rfl, by unfold SeqAt.shaped; rfl⟩]
  unfold PyData.eqv
  rfl
theorem ne_int : neR (.int i) (.int j) = R.ret (.bool (!decide (i = j))) := by
  unfold neR
  rw [if_pos ⟨by unfold SeqAt.shaped; rfl, by unfold SeqAt.shaped; rfl⟩]
  unfold PyData.eqv
  rfl
end
/-! ### lists of one kind -/
theorem ints_all : ∀ ns : List Int, allSome intOf (ns.map PyData.int) = some ns
  | [] => rfl
  | n :: ns => by rw [List.map_cons]; unfold allSome; rw [ints_all ns]; rfl
theorem bools_all : ∀ ns : List Bool, allSome boolOf (ns.map PyData.bool) = some ns
  | [] => rfl
  | n :: ns => by rw [List.map_cons]; unfold allSome; rw [bools_all ns]; rfl
theorem strs_all : ∀ ns : List Str, allSome strOf (ns.map PyData.str) = some ns
  | [] => rfl
  | n :: ns => by rw [List.map_cons]; unfold allSome; rw [strs_all ns]; rfl
theorem sum_ints (ns : List Int) : sumR (.list (ns.map PyData.int)) = R.ret (.int ns.sum) := by simp only [sumR, ints_all]
theorem sum_intsT (ns : List Int) : sumR (.tuple (ns.map PyData.int)) = R.ret (.int ns.sum) := by simp only [sumR, ints_all]
theorem any_bools (ns : List Bool) : anyR (.list (ns.map PyData.bool)) = R.ret (.bool (ns.any id)) := by simp only [anyR, bools_all]
theorem all_bools (ns : List Bool) : allR (.list (ns.map PyData.bool)) = R.ret (.bool (ns.all id)) := by simp only [allR, bools_all]
theorem any_range {n : Nat} (p : Nat → Prop) [DecidablePred p] : anyR (.list ((List.range n).map fun k => PyData.bool (decide (p k)))) = R.ret (.bool (decide (∃ k, k < n ∧ p k))) := by
  have e : (List.range n).map (fun k => PyData.bool (decide (p k))) = ((List.range n).map fun k => decide (p k)).map PyData.bool := by rw [List.map_map]; rfl
  rw [e, any_bools]
  congr 2
  apply Bool.eq_iff_iff.mpr
  rw [List.any_eq_true, decide_eq_true_iff]
  constructor
  · rintro ⟨x, hx, h⟩
    obtain ⟨k, hk, rfl⟩ := List.mem_map.mp hx
    exact ⟨k, List.mem_range.mp hk, of_decide_eq_true h⟩
  · rintro ⟨k, hk, h⟩
    exact ⟨decide (p k), List.mem_map.mpr ⟨k, List.mem_range.mpr hk, rfl⟩, decide_eq_true h⟩
/-! ### data without bools and dicts: == is equality -/
def Pl : Nat → D → Prop
  | _, .none => True
  | _, .int _ => True
  | _, .str x => PyData.canLay0 (.str x) = true
  | k + 1, .tuple xs => ∀ x ∈ xs, Pl k x
  | k + 1, .list xs => ∀ x ∈ xs, Pl k x
  | _, _ => False
theorem Pl.lay : ∀ {k : Nat} {d : D}, Pl k d → d.canLay0 = true ∧ d.depth ≤ k
  | k, .none, h => ⟨rfl, Nat.zero_le _⟩
  | k, .int _, h => ⟨rfl, Nat.zero_le _⟩
  | k, .str x, h => ⟨by unfold Pl at h; exact h, Nat.zero_le _⟩
  | k + 1, .tuple xs, h => by
    have all : ∀ xs : List D, (∀ x ∈ xs, Pl k x) → PyData.canLayAll0 xs = true ∧ PyData.depthAll xs ≤ k := by
      intro xs
      induction xs with
      | nil => exact fun _ => ⟨rfl, Nat.zero_le _⟩
      | cons x xs ih =>
        intro h
        have h1 := Pl.lay (h x List.mem_cons_self)
        have h2 := ih fun y hy => h y (List.mem_cons_of_mem _ hy)
        unfold PyData.canLayAll0 PyData.depthAll
        rw [h1.1, h2.1]
        exact ⟨rfl, Nat.max_le.mpr ⟨h1.2, h2.2⟩⟩
    unfold Pl at h
    have := all xs h
    unfold PyData.canLay0 PyData.depth
    exact ⟨this.1, Nat.succ_le_succ this.2⟩
  | k + 1, .list xs, h => by
    have all : ∀ xs : List D, (∀ x ∈ xs, Pl k x) → PyData.canLayAll0 xs = true ∧ PyData.depthAll xs ≤ k := by
      intro xs
      induction xs with
      | nil => exact fun _ => ⟨rfl, Nat.zero_le _⟩
      | cons x xs ih =>
        intro h
        have h1 := Pl.lay (h x List.mem_cons_self)
        have h2 := ih fun y hy => h y (List.mem_cons_of_mem _ hy)
        unfold PyData.canLayAll0 PyData.depthAll
        rw [h1.1, h2.1]
        exact ⟨rfl, Nat.max_le.mpr ⟨h1.2, h2.2⟩⟩
    unfold Pl at h
    have := all xs h
    unfold PyData.canLay0 PyData.depth
    exact ⟨this.1, Nat.succ_le_succ this.2⟩
  | 0, .tuple xs, h => by unfold Pl at h; exact h.elim
  | 0, .list xs, h => by unfold Pl at h; exact h.elim
  | _, .bool _, h => by unfold Pl at h; exact h.elim
  | _, .dict _, h => by unfold Pl at h; exact h.elim
theorem Pl.shaped {k : Nat} {d : D} (h : Pl k d) (hk : k ≤ 64) : SeqAt.shaped d = true := by
  unfold SeqAt.shaped
  rw [h.lay.1, Bool.true_and]
  exact decide_eq_true (Nat.le_trans h.lay.2 hk)
theorem eqvAll_iff {P : D → Prop} (ih : ∀ x y, P x → P y → (PyData.eqv x y = true ↔ x = y)) : ∀ xs ys : List D, (∀ x ∈ xs, P x) → (∀ x ∈ ys, P x) → (PyData.eqvAll xs ys = true ↔ xs = ys)
  | [], [], _, _ => by simp [PyData.eqvAll]
  | [], _ :: _, _, _ => by simp [PyData.eqvAll]
  | _ :: _, [], _, _ => by simp [PyData.eqvAll]
  | x :: xs, y :: ys, hx, hy => by
    rw [PyData.eqvAll, Bool.and_eq_true, ih x y (hx x List.mem_cons_self) (hy y List.mem_cons_self), eqvAll_iff ih xs ys (fun z hz => hx z (List.mem_cons_of_mem _ hz)) fun z hz => hy z (List.mem_cons_of_mem _ hz)]
    constructor
    · rintro ⟨rfl, rfl⟩; rfl
    · intro e; cases e; exact ⟨rfl, rfl⟩
theorem Pl.eqv : ∀ {k : Nat} {x y : D}, Pl k x → Pl k y → (PyData.eqv x y = true ↔ x = y)
  | 0, x, y, hx, hy => by
    cases x <;> cases y <;> first | (unfold Pl at hx; exact hx.elim) | (unfold Pl at hy; exact hy.elim) | simp [PyData.eqv]
  | k + 1, x, y, hx, hy => by
    have ih : ∀ x y, Pl k x → Pl k y → (PyData.eqv x y = true ↔ x = y) := fun x y => Pl.eqv
    cases x <;> cases y <;> first | (unfold Pl at hx; exact hx.elim) | (unfold Pl at hy; exact hy.elim) | (unfold Pl at hx hy; simp only [PyData.eqv, PyData.tuple.injEq, PyData.list.injEq]; exact eqvAll_iff ih _ _ hx hy) | simp [PyData.eqv]
theorem eq_pl {k : Nat} {x y : D} (hx : Pl k x) (hy : Pl k y) (hk : k ≤ 64) : ∃ b, eqR x y = R.ret (.bool b) ∧ (b = true ↔ x = y) :=
  ⟨_, by unfold eqR; rw [if_pos ⟨hx.shaped hk, hy.shaped hk⟩], hx.eqv hy⟩
theorem ne_pl {k : Nat} {x y : D} (hx : Pl k x) (hy : Pl k y) (hk : k ≤ 64) : ∃ b, neR x y = R.ret (.bool (!b)) ∧ (b = true ↔ x = y) :=
  ⟨_, by unfold neR; rw [if_pos ⟨hx.shaped hk, hy.shaped hk⟩], hx.eqv hy⟩
theorem eq_yes {k : Nat} {x : D} (hx : Pl k x) (hk : k ≤ 64) : eqR x x = R.ret (.bool true) := by
  obtain ⟨b, e, h⟩ := eq_pl hx hx hk
  rw [e, h.mpr rfl]
theorem eq_no {k : Nat} {x y : D} (hx : Pl k x) (hy : Pl k y) (hk : k ≤ 64) (n : x ≠ y) : eqR x y = R.ret (.bool false) := by
  obtain ⟨b, e, h⟩ := eq_pl hx hy hk
  rw [e]
  cases b with
  | false => rfl
  | true => exact absurd (h.mp rfl) n
theorem ne_no {k : Nat} {x : D} (hx : Pl k x) (hk : k ≤ 64) : neR x x = R.ret (.bool false) := by
  obtain ⟨b, e, h⟩ := ne_pl hx hx hk
  rw [e, h.mpr rfl]
  rfl
theorem ne_yes {k : Nat} {x y : D} (hx : Pl k x) (hy : Pl k y) (hk : k ≤ 64) (n : x ≠ y) : neR x y = R.ret (.bool true) := by
  obtain ⟨b, e, h⟩ := ne_pl hx hy hk
  rw [e]
  cases b with
  | false => rfl
  | true => exact absurd (h.mp rfl) n
theorem pl_int {k : Nat} {i : Int} : Pl k (.int i) := by unfold Pl; trivial
theorem pl_none {k : Nat} : Pl k .none := by unfold Pl; trivial
theorem pl_vec {n : Nat} {s : Nat → Int} {k : Nat} : Pl (k + 1) (vec n s) := by
  unfold vec Pl
  intro x hx
  unfold vecL at hx
  obtain ⟨j, _, rfl⟩ := List.mem_map.mp hx
  exact pl_int
/-! ### draws and texts -/
theorem comp_all {α β : Type} {f : α → R β} {P : β → Prop} {Q : List β → Prop} {ds : List α} (h : ∀ d ∈ ds, Ok (f d) P) (hl : ds.length ≤ sizeLine) (k : ∀ ys, ys.length = ds.length → (∀ y ∈ ys, P y) → Q ys) : Ok (compR (fun _ => R.ret true) f ds []) Q :=
  comp_ok (P := fun _ => P) (acc := []) h (by simpa using hl) fun ys hy hp => by
    rw [List.nil_append]
    refine k ys hy fun y hm => ?_
    obtain ⟨i, hi, e⟩ := List.mem_iff_getElem.mp hm
    have hd : i < ds.length := by omega
    exact hp i ds[i] y (List.getElem?_eq_getElem hd) (by rw [List.getElem?_eq_getElem hi, e])
theorem all_map {α : Type} {g : α → D} {P : α → Prop} : ∀ {ys : List D}, (∀ y ∈ ys, ∃ z, y = g z ∧ P z) → ∃ zs : List α, ys = zs.map g ∧ ∀ z ∈ zs, P z
  | [], _ => ⟨[], rfl, by simp⟩
  | y :: ys, h => by
    obtain ⟨z, rfl, hz⟩ := h y List.mem_cons_self
    obtain ⟨zs, rfl, hzs⟩ := all_map fun y hy => h y (List.mem_cons_of_mem _ hy)
    exact ⟨z :: zs, rfl, fun x hx => by
      rcases List.mem_cons.mp hx with rfl | hx
      · exact hz
      · exact hzs x hx⟩
theorem ints_vec {P : Nat → Int → Prop} {n : Nat} {ys : List D} (hl : ys.length = n) (h : ∀ (k : Nat) (y : D), ys[k]? = some y → ∃ z, y = .int z ∧ P k z) : ∃ t : Nat → Int, ys = vecL n t ∧ (∀ k, k < n → P k (t k)) ∧ ∀ k, n ≤ k → t k = 0 := by
  obtain ⟨zs, e, _⟩ := all_map (g := PyData.int) (P := fun _ => True) (ys := ys) fun y hy => by
    obtain ⟨i, hi, e⟩ := List.mem_iff_getElem.mp hy
    obtain ⟨z, e2, _⟩ := h i y (by rw [List.getElem?_eq_getElem hi, e])
    exact ⟨z, e2, trivial⟩
  subst e
  rw [List.length_map] at hl
  refine ⟨fun k => zs.getD k 0, by rw [vecL_of, hl], fun k hk => ?_, fun k hk => ?_⟩
  · obtain ⟨z, e2, hz⟩ := h k (.int (zs[k]'(by omega))) (by rw [List.getElem?_map, List.getElem?_eq_getElem (by omega)]; rfl)
    injection e2 with e2
    rw [← e2] at hz
    simp only [List.getD, List.getElem?_eq_getElem (show k < zs.length by omega), Option.getD_some]
    exact hz
  · simp only [List.getD, List.getElem?_eq_none (show zs.length ≤ k by omega), Option.getD_none]
/-- an int for each place -/
theorem comp_vec_ok {f : D → R D} {n : Nat} {s : Nat → Int} {P : Nat → Int → Prop} (hn : n ≤ sizeLine) (h : ∀ k, k < n → Ok (f (.int (s k))) fun y => ∃ z, y = .int z ∧ P k z) :
    Ok (compR (fun _ => R.ret true) f (vecL n s) []) fun ys => ∃ t : Nat → Int, ys = vecL n t ∧ (∀ k, k < n → P k (t k)) ∧ ∀ k, n ≤ k → t k = 0 := by
  have hs : ∀ (l : List Nat) (m : Nat) (acc : List D), (∀ i k, l[i]? = some k → k = m + i ∧ k < n) → acc.length = m → acc.length + l.length ≤ sizeLine → (∀ (k : Nat) (y : D), acc[k]? = some y → ∃ z, y = .int z ∧ P k z) →
      Ok (compR (fun _ => R.ret true) f (l.map fun k => PyData.int (s k)) acc) fun ys => ys.length = m + l.length ∧ ∀ (k : Nat) (y : D), ys[k]? = some y → ∃ z, y = .int z ∧ P k z := by
    intro l
    induction l with
    | nil => intro m acc _ hm _ ha; exact ⟨⟨by simpa using hm, ha⟩⟩
    | cons j l ih =>
      intro m acc hl hm hz ha
      rw [List.map_cons]
      unfold compR
      simp only [nx_ret, rb, if_true]
      rw [List.length_cons] at hz
      obtain ⟨e0, h0⟩ := hl 0 j rfl
      refine ok_step ⟨nx_ok (h j h0)⟩ fun y hy => ?_
      rw [if_pos (by omega)]
      refine ok_mono (ih (m + 1) (acc ++ [y]) (fun i k e => ?_) (by rw [List.length_append, hm]; rfl) (by rw [List.length_append]; simp only [List.length_cons, List.length_nil]; omega) fun k y' e => ?_) fun ys hys => ⟨by rw [hys.1, List.length_cons]; omega, hys.2⟩
      · obtain ⟨e1, e2⟩ := hl (i + 1) k (by simpa using e)
        exact ⟨by omega, e2⟩
      · by_cases hk : k < acc.length
        · rw [List.getElem?_append_left hk] at e
          exact ha k y' e
        · rw [List.getElem?_append_right (by omega)] at e
          have hk0 : k - acc.length = 0 := by
            by_cases hz : k - acc.length = 0
            · exact hz
            · rw [List.getElem?_eq_none (by simp only [List.length_cons, List.length_nil]; omega)] at e; cases e
          rw [hk0] at e
          cases e
          obtain ⟨z, e3, hz⟩ := hy
          exact ⟨z, e3, by rw [show k = j by omega]; exact hz⟩
  unfold vecL
  refine ok_mono (hs (List.range n) 0 [] (fun i k e => ?_) rfl (by simpa using hn) fun k y e => by simp at e) fun ys hys => ?_
  · by_cases hi : i < n
    · rw [List.getElem?_range hi] at e
      cases e
      exact ⟨by omega, hi⟩
    · rw [List.getElem?_eq_none (by rw [List.length_range]; omega)] at e; cases e
  · rw [List.length_range, Nat.zero_add] at hys
    exact ints_vec hys.1 hys.2
/-- an int for each k of range(n) -/
theorem comp_range_ok {f : D → R D} {n : Nat} {P : Nat → Int → Prop} (hn : n ≤ sizeLine) (h : ∀ k : Nat, k < n → Ok (f (.int (k : Int))) fun y => ∃ z, y = .int z ∧ P k z) :
    Ok (compR (fun _ => R.ret true) f (rangeL 0 n) []) fun ys => ∃ t : Nat → Int, ys = vecL n t ∧ (∀ k, k < n → P k (t k)) ∧ ∀ k, n ≤ k → t k = 0 := by
  have e : rangeL 0 n = vecL n fun k => (k : Int) := by
    unfold rangeL vecL
    exact List.map_congr_left fun k _ => by rw [Int.zero_add]
  rw [e]
  exact comp_vec_ok hn h
theorem draw_lit {n : Int} {k : Nat} (h : n = (k : Int)) (hk : 0 < k) : Ok (drawR (.int n)) fun d => ∃ i : Nat, i < k ∧ d = .int (i : Int) := by
  subst h
  exact ok_draw (by omega) fun i h0 h1 => ⟨i.toNat, by omega, by rw [Int.toNat_of_nonneg h0]⟩
theorem draw_pos {n : Int} (h : 0 < n) : Ok (drawR (.int n)) fun d => ∃ i : Int, 0 ≤ i ∧ i < n ∧ d = .int i := ok_draw h fun i h0 h1 => ⟨i, h0, h1, rfl⟩
theorem ix_ints {ns : List Int} {i : Nat} (h : i < ns.length) : ixR (.list (ns.map PyData.int)) (.int (i : Int)) = R.ret (.int ns[i]) := ix_lst (by rw [List.getElem?_map, List.getElem?_eq_getElem h]; rfl)
theorem ix_str {z : Str} {i : Nat} (h : i < z.length) (hz : z.length ≤ 1000) : ixR (.str z) (.int (i : Int)) = R.ret (.str ⟨#[z.cps[i]'h]⟩) := by
  show (if z.length ≤ sizeLine then (match L2.atI z.cps.toList (i : Int) with | some c => R.ret (PyData.str ⟨#[c]⟩) | none => bad) else bad) = _
  rw [if_pos (Nat.le_of_lt (L2.small1000 hz)), L2.atI_nat (show z.cps.toList[i]? = some (z.cps[i]'h) by rw [Array.getElem?_toList]; exact Array.getElem?_eq_getElem h)]
theorem add_str {i j : Str} (h : i.length + j.length ≤ 1000) : addR (.str i) (.str j) = R.ret (.str (i ++ j)) := by
  show (if i.length + j.length ≤ sizeLine then R.ret (PyData.str (i ++ j)) else bad) = _
  rw [if_pos (Nat.le_of_lt (L2.small1000 h))]
theorem len_app {i j : Str} : (i ++ j).length = i.length + j.length := by
  show (i.cps ++ j.cps).size = _
  rw [Array.size_append]
  rfl
theorem rng_int {n : Int} (h0 : 0 ≤ n) (h1 : n ≤ 1000) : rng1R (.int n) = R.ret (rangeL 0 n.toNat) := by
  have := rng_nat (n := n.toNat) (Nat.lt_of_le_of_lt (show n.toNat ≤ 1000 by omega) (by decide))
  rw [Int.toNat_of_nonneg h0] at this
  exact this
theorem join_strs {a : Str} {zs : List Str} (h : (zs.map (·.length)).sum + zs.length * a.length ≤ 1000) : joinR a (.list (zs.map PyData.str)) = R.ret (.str (Txt.join a zs)) := by
  simp only [joinR, strs_all, joinL]
  rw [if_pos (Nat.le_trans h (by decide))]
theorem join_len (a : Str) (zs : List Str) : (Txt.join a zs).length ≤ (zs.map (·.length)).sum + zs.length * a.length := by
  rw [TL.join_eq]
  induction zs with
  | nil => exact Nat.zero_le _
  | cons x r ih =>
    cases r with
    | nil => show x.length ≤ _; simp
    | cons y r =>
      have e : (Str.join a (x :: y :: r)).length = x.length + a.length + (Str.join a (y :: r)).length := by
        show (x.cps ++ a.cps ++ (Str.join a (y :: r)).cps).size = _
        rw [Array.size_append, Array.size_append]
        rfl
      rw [e]
      simp only [List.map_cons, List.sum_cons, List.length_cons, Nat.add_mul, Nat.one_mul] at ih ⊢
      omega
theorem sum_ones {zs : List Str} {b : Nat} (h : ∀ z ∈ zs, z.length ≤ b) : (zs.map (·.length)).sum ≤ zs.length * b := by
  induction zs with
  | nil => simp
  | cons z zs ih =>
    have h1 := h z List.mem_cons_self
    have h2 := ih fun x hx => h x (List.mem_cons_of_mem _ hx)
    simp only [List.map_cons, List.sum_cons, List.length_cons, Nat.add_mul, Nat.one_mul]
    omega
theorem seq_bind {α S S' B T : Type} {t : R α} {g : α → R (Out S B T)} {k : S → R (Out S' B T)} : (t.bind fun b => seqR (g b) k) = seqR (t.bind g) k := (R.bind_assoc t g _).symm
theorem eq_bool {a b : Bool} : eqR (.bool a) (.bool b) = R.ret (.bool (a == b)) := by
  unfold eqR
  rw [if_pos ⟨by unfold SeqAt.shaped; rfl, by unfold SeqAt.shaped; rfl⟩]
  unfold PyData.eqv
  rfl
theorem ne_bool {a b : Bool} : neR (.bool a) (.bool b) = R.ret (.bool (!(a == b))) := by
  unfold neR
  rw [if_pos ⟨by unfold SeqAt.shaped; rfl, by unfold SeqAt.shaped; rfl⟩]
  unfold PyData.eqv
  rfl
theorem isi_bool {a : Bool} : isiR "bool" (.bool a) = R.ret (.bool true) := Eq.trans rfl rfl
theorem is_true {a : Bool} : isR (.bool a) (.bool true) = R.ret (.bool a) := by
  show R.ret (PyData.bool (decide (a = true))) = _
  cases a <;> rfl
/-! ### rows of moves -/
def natL (ms : List Nat) : List D := ms.map fun m : Nat => PyData.int (m : Int)
theorem natL_length {ms : List Nat} : (natL ms).length = ms.length := by unfold natL; rw [List.length_map]
theorem natL_get {ms : List Nat} {i m : Nat} (h : ms[i]? = some m) : (natL ms)[i]? = some (.int (m : Int)) := by unfold natL; rw [List.getElem?_map, h]; rfl
theorem natL_append {a b : List Nat} : natL (a ++ b) = natL a ++ natL b := by unfold natL; rw [List.map_append]
theorem natL_rep {a : List Nat} : ∀ c : Nat, natL (List.replicate c a).flatten = (List.replicate c (natL a)).flatten
  | 0 => rfl
  | c + 1 => by rw [List.replicate_succ, List.flatten_cons, natL_append, natL_rep c, List.replicate_succ, List.flatten_cons]
/-- one place of a stock changed by slices -/
theorem cut_take (xs : List D) (n : Nat) : cutD xs none (some (n : Int)) = xs.take n := by
  unfold cutD
  rw [HT.sIx_none, HT.sIx_nat, List.drop_zero, Nat.sub_zero]
  by_cases h : n ≤ xs.length
  · rw [Nat.min_eq_left h]
  · rw [Nat.min_eq_right (by omega), List.take_length, List.take_of_length_le (by omega)]
theorem cut_drop (xs : List D) (n : Nat) : cutD xs (some (n : Int)) none = xs.drop n := by
  unfold cutD
  rw [HT.sIx_none, HT.sIx_nat]
  by_cases h : n ≤ xs.length
  · rw [Nat.min_eq_left h]
    exact List.take_of_length_le (by rw [List.length_drop]; exact Nat.le_refl _)
  · rw [Nat.min_eq_right (by omega), List.drop_length, List.drop_eq_nil_of_le (by omega), List.take_nil]
theorem vec_but {n k : Nat} {f : Nat → Int} {x : Int} (hk : k < n) : (vecL n f).take k ++ [PyData.int x] ++ (vecL n f).drop (k + 1) = vecL n fun i => if i = k then x else f i := by
  apply List.ext_getElem?
  intro i
  have hl : ((vecL n f).take k).length = k := by rw [List.length_take, vecL_length]; omega
  by_cases h1 : i < k
  · rw [List.append_assoc, List.getElem?_append_left (by omega), List.getElem?_take, if_pos h1, vecL_get (by omega), vecL_get (by omega), if_neg (by omega)]
  · by_cases h2 : i = k
    · subst h2
      rw [List.append_assoc, List.getElem?_append_right (by omega), hl, Nat.sub_self, vecL_get hk, if_pos rfl]
      rfl
    · rw [List.getElem?_append_right (by rw [List.length_append, hl]; simp only [List.length_cons, List.length_nil]; omega), List.length_append, hl]
      simp only [List.length_cons, List.length_nil]
      rw [List.getElem?_drop, show k + 1 + (i - (k + (0 + 1))) = i by omega]
      by_cases h3 : i < n
      · rw [vecL_get h3, vecL_get h3, if_neg h2]
      · rw [List.getElem?_eq_none (by rw [vecL_length]; omega), List.getElem?_eq_none (by rw [vecL_length]; omega)]
/-- the items that pass -/
theorem comp_filter {α β : Type} {c : α → R Bool} {f : α → R β} {p : α → Bool} {g : α → β} : ∀ {ds : List α} {acc : List β}, (∀ d ∈ ds, c d = R.ret (p d)) → (∀ d ∈ ds, p d = true → f d = R.ret (g d)) → acc.length + ds.length ≤ sizeLine → compR c f ds acc = R.ret (acc ++ (ds.filter p).map g)
  | [], acc, _, _, _ => by unfold compR; simp
  | d :: ds, acc, hc, hf, hl => by
    unfold compR
    rw [List.length_cons] at hl
    rw [hc d List.mem_cons_self]
    simp only [nx_ret, rb]
    cases e : p d with
    | true =>
      rw [if_pos rfl, hf d List.mem_cons_self e]
      simp only [nx_ret, rb]
      rw [if_pos (by omega), comp_filter (fun d hd => hc d (List.mem_cons_of_mem _ hd)) (fun d hd => hf d (List.mem_cons_of_mem _ hd)) (by rw [List.length_append]; simp only [List.length_cons, List.length_nil]; omega), List.filter_cons, e]
      simp
    | false =>
      rw [if_neg (by decide), comp_filter (fun d hd => hc d (List.mem_cons_of_mem _ hd)) (fun d hd => hf d (List.mem_cons_of_mem _ hd)) (by omega), List.filter_cons, e]
      simp
theorem add_tup {xs ys : List D} (h1 : xs.length ≤ 100000) (h2 : ys.length ≤ 100000) : addR (.tuple xs) (.tuple ys) = R.ret (.tuple (xs ++ ys)) := by
  have hz : xs.length + ys.length ≤ sizeLine := Nat.le_trans (show xs.length + ys.length ≤ 200000 by omega) (by show 200000 ≤ 2 ^ 24; decide)
  simp only [addR, hz, if_true]
theorem slice_to {xs : List D} {k : Nat} : sliceR (.tuple xs) none (some (k : Int)) = R.ret (.tuple (xs.take k)) := by
  show R.ret (PyData.tuple (cutD xs none (some (k : Int)))) = _
  rw [cut_take]
theorem slice_from {xs : List D} {k : Nat} : sliceR (.tuple xs) (some (k : Int)) none = R.ret (.tuple (xs.drop k)) := by
  show R.ret (PyData.tuple (cutD xs (some (k : Int)) none)) = _
  rw [cut_drop]
theorem pow_nat {i : Int} {k : Nat} (h : i.natAbs < 2 ^ 64) (hk : k ≤ 1000) : powR (.int i) (.int (k : Int)) = R.ret (.int (i ^ k)) := by
  have hc : (0 : Int) ≤ (k : Int) ∧ (k : Int) ≤ 1000000 ∧ i.natAbs < 2 ^ 64 := ⟨by omega, by omega, h⟩
  simp only [powR, hc, and_self, if_true, Int.toNat_natCast]
/-- items that come to just so much -/
theorem comp_range_eq {f : D → R D} {n : Nat} {g : Nat → D} (hn : n ≤ sizeLine) (h : ∀ k : Nat, k < n → Ok (f (.int (k : Int))) fun y => y = g k) : Ok (compR (fun _ => R.ret true) f (rangeL 0 n) []) fun ys => ys = (List.range n).map g := by
  refine comp_ok (P := fun d y => ∃ k : Nat, d = .int (k : Int) ∧ y = g k) (acc := []) (fun d hd => ?_) (by rw [rangeL_length]; simpa using hn) fun ys hl hp => ?_
  · unfold rangeL at hd
    obtain ⟨k, hk, rfl⟩ := List.mem_map.mp hd
    rw [Int.zero_add]
    exact ok_mono (h k (List.mem_range.mp hk)) fun y e => ⟨k, rfl, e⟩
  · rw [List.nil_append]
    rw [rangeL_length] at hl
    apply List.ext_getElem?
    intro i
    by_cases hi : i < n
    · obtain ⟨k, e1, e2⟩ := hp i (.int (i : Int)) (ys[i]'(by omega)) (by unfold rangeL; rw [List.getElem?_map, List.getElem?_range hi, Option.map_some, Int.zero_add]) (List.getElem?_eq_getElem (by omega))
      have hk : k = i := by injection e1 with e1; omega
      subst hk
      rw [List.getElem?_eq_getElem (by omega), e2, List.getElem?_map, List.getElem?_range hi]
      rfl
    · rw [List.getElem?_eq_none (by omega), List.getElem?_eq_none (by rw [List.length_map, List.length_range]; omega)]
end Pu
/-! Pr: books and runs, no program in sight. -/
namespace Pu
open PySem R
theorem small1000' {n : Nat} (h : n ≤ 1000) : n < sizeLine := L2.small1000 h
/-- a book by places -/
structure Bk where
  n : Nat
  mm : Nat
  names : List D
  nm : Nat → Str
  tk : Nat → Nat → Int
  lo : Nat → Nat → Int
  hi : Nat → Nat → Int
namespace Bk
variable (b : Bk)
def move (i : Nat) : D := .tuple [.str (b.nm i), vec b.n (b.tk i), vec b.n (b.lo i), vec b.n (b.hi i)]
def moves : List D := (List.range b.mm).map b.move
def d : D := .tuple [.tuple b.names, .tuple b.moves]
def gain (i k : Nat) : Int := b.hi i k - b.tk i k
structure Fine (most : Int) : Prop where
  n1 : 1 ≤ b.n
  n2 : b.n ≤ 20
  m2 : b.mm ≤ 100
  nl : b.names.length = b.n
  tk0 : ∀ i k, 0 ≤ b.tk i k
  tk1 : ∀ i k, b.tk i k ≤ most
  lo0 : ∀ i k, 0 ≤ b.lo i k
  hi0 : ∀ i k, b.lo i k ≤ b.hi i k
  hi1 : ∀ i k, b.hi i k ≤ most
theorem moves_length : b.moves.length = b.mm := by unfold moves; rw [List.length_map, List.length_range]
theorem moves_get {i : Nat} (h : i < b.mm) : b.moves[i]? = some (b.move i) := by unfold moves; rw [List.getElem?_map, List.getElem?_range h]; rfl
/-- what a row of moves needs and changes -/
def need : List Nat → Nat → Int
  | [], _ => 0
  | m :: ms, k => max (b.tk m k) (need ms k - b.gain m k)
def chg : List Nat → Nat → Int
  | [], _ => 0
  | m :: ms, k => b.gain m k + chg ms k
theorem chg_append (xs ys : List Nat) (k : Nat) : b.chg (xs ++ ys) k = b.chg xs k + b.chg ys k := by
  induction xs with
  | nil => simp [chg]
  | cons m xs ih => rw [List.cons_append, chg, chg, ih]; omega
variable {b}
theorem need_nn (h : ∀ i k, 0 ≤ b.tk i k) : ∀ (ms : List Nat) (k : Nat), 0 ≤ b.need ms k
  | [], _ => Int.le_refl 0
  | m :: ms, k => by rw [need]; have := h m k; omega
theorem need_append (h : ∀ i k, 0 ≤ b.tk i k) : ∀ (xs ys : List Nat) (k : Nat), b.need (xs ++ ys) k = max (b.need xs k) (b.need ys k - b.chg xs k)
  | [], ys, k => by
    have := need_nn h ys k
    rw [List.nil_append, need, chg]
    omega
  | m :: xs, ys, k => by
    rw [List.cons_append, need, need, chg, need_append h xs ys k]
    omega
theorem chg_rep (ms : List Nat) (k : Nat) : ∀ c : Nat, b.chg (List.replicate c ms).flatten k = c * b.chg ms k
  | 0 => by simp [chg]
  | c + 1 => by
    rw [List.replicate_succ, List.flatten_cons, chg_append, chg_rep ms k c]
    rw [Int.natCast_add, Int.add_mul]
    simp only [Int.cast_ofNat_Int, Int.one_mul]
    omega
theorem need_rep (h : ∀ i k, 0 ≤ b.tk i k) (ms : List Nat) (k : Nat) : ∀ c : Nat, b.need (List.replicate (c + 1) ms).flatten k = max (b.need ms k) (b.need ms k - c * b.chg ms k)
  | 0 => by
    simp only [List.replicate_succ, List.replicate_zero, List.flatten_cons, List.flatten_nil, List.append_nil]
    rw [Int.natCast_zero, Int.zero_mul]
    omega
  | c + 1 => by
    rw [List.replicate_succ, List.flatten_cons, need_append h, need_rep h ms k c]
    have e : ((c + 1 : Nat) : Int) * b.chg ms k = c * b.chg ms k + b.chg ms k := by
      rw [Int.natCast_add, Int.add_mul]
      simp
    rw [e]
    by_cases hs : 0 ≤ b.chg ms k
    · have : 0 ≤ (c : Int) * b.chg ms k := Int.mul_nonneg (by omega) hs
      omega
    · have : (c : Int) * b.chg ms k ≤ 0 := Int.mul_nonpos_of_nonneg_of_nonpos (by omega) (by omega)
      omega
/-- step by step -/
theorem need_le {most : Int} (h : b.Fine most) (k : Nat) : ∀ (ms : List Nat) (x : Int), 0 ≤ x → (b.need ms k ≤ x ↔ ∀ i m, ms[i]? = some m → b.tk m k ≤ x + b.chg (ms.take i) k)
  | [], x, hx => by simp [need, hx]
  | m :: ms, x, hx => by
    rw [need]
    have ih : 0 ≤ x + b.gain m k → _ := need_le h k ms (x + b.gain m k)
    constructor
    · intro hh i m' e
      have h1 : b.tk m k ≤ x := by omega
      have h2 : b.need ms k ≤ x + b.gain m k := by omega
      cases i with
      | zero =>
        simp at e
        subst e
        simp [chg]
        exact h1
      | succ i =>
        have hg : 0 ≤ x + b.gain m k := by
          have := h.lo0 m k
          have := h.hi0 m k
          unfold gain
          omega
        have := (ih hg).mp h2 i m' (by simpa using e)
        rw [List.take_succ_cons, chg]
        omega
    · intro hh
      have h1 : b.tk m k ≤ x := by
        have := hh 0 m rfl
        simp [chg] at this
        exact this
      have hg : 0 ≤ x + b.gain m k := by
        have := h.lo0 m k
        have := h.hi0 m k
        unfold gain
        omega
      have h2 := (ih hg).mpr fun i m' e => by
        have := hh (i + 1) m' (by simpa using e)
        rw [List.take_succ_cons, chg] at this
        omega
      omega
theorem chg_take_succ {ms : List Nat} {i m : Nat} (h : ms[i]? = some m) (k : Nat) : b.chg (ms.take (i + 1)) k = b.chg (ms.take i) k + b.gain m k := by
  rw [List.take_add_one, h, chg_append]
  simp [chg]
end Bk
/-- a run's steps, how deep, and the moves that they are; cm: the greatest count -/
inductive RunD (mm : Nat) (cm : Int) : Nat → List D → List Nat → Prop where
  | nil {k : Nat} : RunD mm cm k [] []
  | one {k m : Nat} {ds : List D} {ms : List Nat} : m < mm → RunD mm cm k ds ms → RunD mm cm k (.tuple [.str "do", .int m] :: ds) (m :: ms)
  | rep {k c : Nat} {es ds : List D} {ns ms : List Nat} : (c : Int) + 1 ≤ cm → es ≠ [] ∧ es.length ≤ 1000 → RunD mm cm k es ns → RunD mm cm (k + 1) ds ms → RunD mm cm (k + 1) (.tuple [.str "rep", .int ((c + 1 : Nat) : Int), .tuple es] :: ds) ((List.replicate (c + 1) ns).flatten ++ ms)
theorem RunD.lt {mm : Nat} {cm : Int} {k : Nat} {ds : List D} {ms : List Nat} (h : RunD mm cm k ds ms) : ∀ m ∈ ms, m < mm := by
  induction h with
  | nil => simp
  | one h _ ih =>
    intro m hm
    rcases List.mem_cons.mp hm with rfl | hm
    · exact h
    · exact ih m hm
  | rep _ _ _ _ ih1 ih2 =>
    intro m hm
    rcases List.mem_append.mp hm with hm | hm
    · obtain ⟨l, hl, hm⟩ := List.mem_flatten.mp hm
      rw [List.mem_replicate] at hl
      rw [hl.2] at hm
      exact ih1 m hm
    · exact ih2 m hm
theorem RunD.up {mm : Nat} {cm : Int} {k : Nat} {ds : List D} {ms : List Nat} (h : RunD mm cm k ds ms) : RunD mm cm (k + 1) ds ms := by
  induction h with
  | nil => exact .nil
  | one h _ ih => exact .one h ih
  | rep h n _ _ ih1 ih2 => exact .rep h n ih1 ih2
theorem RunD.snoc1 {mm : Nat} {cm : Int} {k : Nat} {ds : List D} {ms : List Nat} (h : RunD mm cm k ds ms) {m : Nat} (hm : m < mm) : RunD mm cm k (ds ++ [.tuple [.str "do", .int m]]) (ms ++ [m]) := by
  induction h with
  | nil => exact .one hm .nil
  | one h _ ih => exact .one h ih
  | rep h n h1 _ ih1 ih2 => rw [List.cons_append, List.append_assoc]; exact .rep h n h1 ih2
theorem RunD.snocr {mm : Nat} {cm : Int} {k : Nat} {ds : List D} {ms : List Nat} (h : RunD mm cm (k + 1) ds ms) {c : Nat} {es : List D} {ns : List Nat} (hc : (c : Int) + 1 ≤ cm) (he : es ≠ [] ∧ es.length ≤ 1000) (hr : RunD mm cm k es ns) :
    RunD mm cm (k + 1) (ds ++ [.tuple [.str "rep", .int ((c + 1 : Nat) : Int), .tuple es]]) (ms ++ (List.replicate (c + 1) ns).flatten) := by
  generalize hk : k + 1 = k1 at h
  induction h with
  | nil => subst hk; have := RunD.rep hc he hr (RunD.nil (mm := mm) (cm := cm)); rw [List.append_nil] at this; exact this
  | one h _ ih => exact .one h (ih hk)
  | rep h n h1 _ ih1 ih2 =>
    rw [List.cons_append, List.append_assoc]
    exact .rep h n h1 (ih2 hk)
theorem RunD.pl {mm : Nat} {cm : Int} {k : Nat} {ds : List D} {ms : List Nat} (h : RunD mm cm k ds ms) : Pl (2 * k + 2) (.tuple ds) := by
  have key : ∀ x ∈ ds, Pl (2 * k + 1) x := by
    induction h with
    | nil => simp
    | @one k m ds ms _ _ ih =>
      intro x hx
      rcases List.mem_cons.mp hx with rfl | hx
      · show ∀ y ∈ ([PyData.str "do", PyData.int m] : List D), Pl (2 * k) y
        intro y hy
        simp only [List.mem_cons, List.not_mem_nil, or_false] at hy
        rcases hy with rfl | rfl
        · unfold Pl; decide +kernel
        · exact pl_int
      · exact ih x hx
    | @rep k c es ds ns ms _ _ h1 _ ih1 ih2 =>
      intro x hx
      rcases List.mem_cons.mp hx with rfl | hx
      · show ∀ y ∈ ([PyData.str "rep", PyData.int ((c + 1 : Nat) : Int), PyData.tuple es] : List D), Pl (2 * k + 2) y
        intro y hy
        simp only [List.mem_cons, List.not_mem_nil, or_false] at hy
        rcases hy with rfl | rfl | rfl
        · unfold Pl; decide +kernel
        · exact pl_int
        · unfold Pl; exact ih1
      · exact ih2 x hx
  unfold Pl
  exact key
/-- need by plays -/
theorem Bk.need_all {b : Bk} {most : Int} (h : b.Fine most) {ms : List Nat} {s : Nat → Int} (hs : ∀ k, k < b.n → 0 ≤ s k) {cnt : Nat} (hc : cnt ≤ ms.length) (h1 : ∀ i, i < cnt → ∀ m, ms[i]? = some m → ∀ k, k < b.n → b.tk m k ≤ s k + b.chg (ms.take i) k)
    (h2 : cnt < ms.length → ∃ m k, ms[cnt]? = some m ∧ k < b.n ∧ s k + b.chg (ms.take cnt) k < b.tk m k) : cnt = ms.length ↔ ∀ k, k < b.n → b.need ms k ≤ s k := by
  constructor
  · rintro rfl k hk
    refine (need_le h k ms (s k) (hs k hk)).mpr fun i m e => ?_
    have hi : i < ms.length := by
      by_cases hi : i < ms.length
      · exact hi
      · rw [List.getElem?_eq_none (by omega)] at e; cases e
    exact h1 i hi m e k hk
  · intro hn
    by_cases hlt : cnt < ms.length
    · obtain ⟨m, k, e, hk, hlt2⟩ := h2 hlt
      have := (need_le h k ms (s k) (hs k hk)).mp (hn k hk) cnt m e
      omega
    · omega
end Pu
/-! Pq: where a row of moves stops. -/
namespace Pu
open PySem R
namespace Bk
variable (b : Bk)
/-- the stock lets the move -/
def Lets (s : Nat → Int) (m : Nat) : Prop := ∀ k, k < b.n → b.tk m k ≤ s k
instance (s : Nat → Int) (m : Nat) : Decidable (b.Lets s m) := by unfold Lets; exact inferInstance
def stop : (Nat → Int) → List Nat → Option Nat
  | _, [] => none
  | s, m :: ms => if b.Lets s m then (stop (fun k => s k + b.gain m k) ms).map (· + 1) else some 0
variable {b}
theorem stop_cons {s : Nat → Int} {m : Nat} {ms : List Nat} : b.stop s (m :: ms) = if b.Lets s m then (b.stop (fun k => s k + b.gain m k) ms).map (· + 1) else some 0 := rfl
theorem stop_congr : ∀ (ms : List Nat) {s t : Nat → Int}, (∀ k, k < b.n → s k = t k) → b.stop s ms = b.stop t ms
  | [], _, _, _ => rfl
  | m :: ms, s, t, h => by
    have e : b.Lets s m ↔ b.Lets t m := ⟨fun z k hk => by rw [← h k hk]; exact z k hk, fun z k hk => by rw [h k hk]; exact z k hk⟩
    unfold stop
    rw [stop_congr ms (s := fun k => s k + b.gain m k) (t := fun k => t k + b.gain m k) fun k hk => by show s k + _ = t k + _; rw [h k hk]]
    by_cases z : b.Lets s m
    · rw [if_pos z, if_pos (e.mp z)]
    · rw [if_neg z, if_neg fun y => z (e.mpr y)]
theorem stop_append : ∀ (xs ys : List Nat) (s : Nat → Int), b.stop s (xs ++ ys) = match b.stop s xs with
    | some i => some i
    | none => (b.stop (fun k => s k + b.chg xs k) ys).map (· + xs.length)
  | [], ys, s => by
    show b.stop s ys = (b.stop (fun k => s k + b.chg [] k) ys).map (· + 0)
    rw [stop_congr ys (s := fun k => s k + b.chg [] k) (t := s) fun k _ => by simp [chg]]
    cases b.stop s ys <;> rfl
  | m :: xs, ys, s => by
    rw [List.cons_append, stop_cons, stop_cons]
    by_cases z : b.Lets s m
    · rw [if_pos z, if_pos z, stop_append xs ys]
      cases e : b.stop (fun k => s k + b.gain m k) xs with
      | some i => rfl
      | none =>
        show Option.map _ (Option.map _ _) = Option.map _ _
        rw [Option.map_map, stop_congr ys (s := fun k => s k + b.gain m k + b.chg xs k) (t := fun k => s k + b.chg (m :: xs) k) fun k _ => by rw [chg]; omega]
        congr 1
    · rw [if_neg z, if_neg z]
/-- a row can be played just where the stock covers its need -/
theorem stop_none {most : Int} (h : b.Fine most) : ∀ (ms : List Nat) (s : Nat → Int), (∀ k, k < b.n → 0 ≤ s k) → (b.stop s ms = none ↔ ∀ k, k < b.n → b.need ms k ≤ s k)
  | [], s, hs => by simp only [stop, need, true_iff]; exact hs
  | m :: ms, s, hs => by
    unfold stop
    by_cases z : b.Lets s m
    · rw [if_pos z, Option.map_eq_none_iff, stop_none h ms _ fun k hk => by
        have h1 := z k hk
        have h2 := h.lo0 m k
        have h3 := h.hi0 m k
        unfold gain
        omega]
      constructor
      · intro y k hk
        have h1 := z k hk
        have h2 := y k hk
        rw [need]
        omega
      · intro y k hk
        have h2 := y k hk
        rw [need] at h2
        omega
    · rw [if_neg z]
      constructor
      · intro y; cases y
      · intro y
        exact absurd (fun k hk => by have h2 := y k hk; rw [need] at h2; omega) z
theorem stop_lt : ∀ (ms : List Nat) (s : Nat → Int) (i : Nat), b.stop s ms = some i → i < ms.length
  | [], _, _, h => by cases h
  | m :: ms, s, i, h => by
    unfold stop at h
    by_cases z : b.Lets s m
    · rw [if_pos z] at h
      obtain ⟨j, hj, rfl⟩ := Option.map_eq_some_iff.mp h
      have := stop_lt ms _ j hj
      rw [List.length_cons]; omega
    · rw [if_neg z] at h
      cases h
      rw [List.length_cons]; omega
/-- the stop by places -/
theorem stop_at : ∀ (ms : List Nat) (s : Nat → Int) (cnt : Nat), cnt ≤ ms.length → (∀ i, i < cnt → ∀ m, ms[i]? = some m → ∀ k, k < b.n → b.tk m k ≤ s k + b.chg (ms.take i) k) →
    (cnt < ms.length → ∃ m k, ms[cnt]? = some m ∧ k < b.n ∧ s k + b.chg (ms.take cnt) k < b.tk m k) → b.stop s ms = if cnt = ms.length then none else some cnt
  | [], s, cnt, h, _, _ => by
    have : cnt = 0 := Nat.le_zero.mp h
    subst this
    rfl
  | m :: ms, s, 0, _, _, h2 => by
    obtain ⟨m', k, e, hk, hlt⟩ := h2 (by rw [List.length_cons]; omega)
    cases e
    rw [if_neg (by rw [List.length_cons]; omega)]
    unfold stop
    rw [if_neg fun z => by
      have := z k hk
      simp [chg] at hlt
      omega]
  | m :: ms, s, cnt + 1, hl, h1, h2 => by
    rw [List.length_cons] at hl h2
    have hm : b.Lets s m := fun k hk => by
      have := h1 0 (Nat.succ_pos _) m rfl k hk
      simp [chg] at this
      exact this
    unfold stop
    rw [if_pos hm, stop_at ms (fun k => s k + b.gain m k) cnt (by omega) (fun i hi m' e k hk => by
        have := h1 (i + 1) (by omega) m' (by simpa using e) k hk
        rw [List.take_succ_cons, chg] at this
        omega) fun hc => by
        obtain ⟨m', k, e, hk, hlt⟩ := h2 (by omega)
        refine ⟨m', k, by simpa using e, hk, ?_⟩
        rw [List.take_succ_cons, chg] at hlt
        omega]
    by_cases hc : cnt = ms.length
    · rw [if_pos hc, if_pos (by rw [List.length_cons]; omega)]; rfl
    · rw [if_neg hc, if_neg (by rw [List.length_cons]; omega)]; rfl
/-- rounds of a row -/
theorem stop_rounds {most : Int} (h : b.Fine most) {ns : List Nat} : ∀ (q : Nat) (t : Nat → Int), (∀ k, k < b.n → 0 ≤ t k) → (∀ i : Nat, i < q → ∀ k, k < b.n → b.need ns k ≤ t k + i * b.chg ns k) → b.stop t (List.replicate q ns).flatten = none
  | 0, _, _, _ => rfl
  | q + 1, t, ht, hq => by
    rw [List.replicate_succ, List.flatten_cons, stop_append]
    have h0 : b.stop t ns = none := (stop_none h ns t ht).mpr fun k hk => by
      have := hq 0 (Nat.succ_pos _) k hk
      simp at this
      exact this
    rw [h0]
    show Option.map _ _ = none
    rw [stop_rounds h q (fun k => t k + b.chg ns k) (fun k hk => ?_) fun i hi k hk => ?_]
    · rfl
    · have h1 := hq 0 (Nat.succ_pos _) k hk
      have h2 := need_chg h ns k
      simp at h1
      omega
    · have := hq (i + 1) (by omega) k hk
      rw [Int.natCast_add, Int.add_mul] at this
      simp only [Int.cast_ofNat_Int, Int.one_mul] at this
      omega
where
  need_chg {most : Int} (h : b.Fine most) : ∀ (ms : List Nat) (k : Nat), 0 ≤ b.need ms k + b.chg ms k
    | [], k => by simp [need, chg]
    | m :: ms, k => by
      have ih := need_chg h ms k
      rw [need, chg]
      have h2 := h.lo0 m k
      have h3 := h.hi0 m k
      unfold gain
      omega
theorem chg_size {most : Int} (h : b.Fine most) (h0 : 0 ≤ most) : ∀ (ms : List Nat) (k : Nat), -(most * ms.length) ≤ b.chg ms k ∧ b.chg ms k ≤ most * ms.length
  | [], k => by simp [chg]
  | m :: ms, k => by
    have ih := chg_size h h0 ms k
    have h1 := h.tk0 m k
    have h2 := h.tk1 m k
    have h3 := h.lo0 m k
    have h4 := h.hi0 m k
    have h5 := h.hi1 m k
    rw [chg, List.length_cons, Int.natCast_add, Int.mul_add]
    simp only [Int.cast_ofNat_Int, Int.mul_one]
    unfold gain
    omega
end Bk
/-- a run whose outermost counts may be great -/
inductive RunT (mm : Nat) (cm : Int) : Nat → List D → List Nat → Prop where
  | nil {k : Nat} : RunT mm cm k [] []
  | one {k m : Nat} {ds : List D} {ms : List Nat} : m < mm → RunT mm cm k ds ms → RunT mm cm k (.tuple [.str "do", .int m] :: ds) (m :: ms)
  | rep {k c : Nat} {es ds : List D} {ns ms : List Nat} : ((c : Int) + 1 < 2 ^ 64 ∨ ns.length ≤ 1000000) → ns.length < 2 ^ 150 → es ≠ [] ∧ es.length ≤ 1000 → RunD mm cm k es ns → RunT mm cm (k + 1) ds ms →
    RunT mm cm (k + 1) (.tuple [.str "rep", .int ((c + 1 : Nat) : Int), .tuple es] :: ds) ((List.replicate (c + 1) ns).flatten ++ ms)
theorem RunD.toT {mm : Nat} {cm : Int} {k : Nat} {ds : List D} {ms : List Nat} (h : RunD mm cm k ds ms) (hc : cm < 2 ^ 64) (hl : ms.length < 2 ^ 150) : RunT mm cm k ds ms := by
  induction h with
  | nil => exact .nil
  | one h _ ih => exact .one h (ih (by rw [List.length_cons] at hl; omega))
  | @rep k c es ds ns ms h1 h2 h3 _ _ ih =>
    rw [List.length_append, List.length_flatten, List.map_replicate, List.sum_replicate_nat] at hl
    have hn : ns.length ≤ (c + 1) * ns.length := Nat.le_mul_of_pos_left _ (Nat.succ_pos c)
    exact .rep (.inl (by omega)) (by omega) h2 h3 (ih (by omega))
/-- a run at a place -/
theorem RunD.at {mm : Nat} {cm : Int} : ∀ {k : Nat} {ds : List D} {ms : List Nat} {i : Nat} {d : D}, RunD mm cm k ds ms → ds[i]? = some d →
    ∃ (m1 m2 : List Nat), RunD mm cm k (ds.take i) m1 ∧ RunD mm cm k (ds.drop (i + 1)) m2 ∧
      ((∃ m, m < mm ∧ d = .tuple [.str "do", .int (m : Int)] ∧ ms = m1 ++ (m :: m2)) ∨
       ∃ (k' c : Nat) (es : List D) (ns : List Nat), k = k' + 1 ∧ (c : Int) + 1 ≤ cm ∧ (es ≠ [] ∧ es.length ≤ 1000) ∧ RunD mm cm k' es ns ∧ d = .tuple [.str "rep", .int ((c + 1 : Nat) : Int), .tuple es] ∧ ms = m1 ++ ((List.replicate (c + 1) ns).flatten ++ m2)) := by
  intro k ds ms i d h
  induction h generalizing i with
  | nil => intro e; simp at e
  | @one k m ds ms hm hr ih =>
    intro e
    cases i with
    | zero => simp at e; subst e; exact ⟨[], ms, .nil, hr, .inl ⟨m, hm, rfl, rfl⟩⟩
    | succ i =>
      obtain ⟨m1, m2, h1, h2, h3⟩ := ih (by simpa using e)
      refine ⟨m :: m1, m2, .one hm h1, h2, ?_⟩
      rcases h3 with ⟨m', a, b, e⟩ | ⟨k', c, es, ns, a1, a2, a3, a4, a5, a6⟩
      · exact .inl ⟨m', a, b, by rw [e]; rfl⟩
      · exact .inr ⟨k', c, es, ns, a1, a2, a3, a4, a5, by rw [a6]; rfl⟩
  | @rep k c es ds ns ms hc he hr1 hr2 ih1 ih2 =>
    intro e
    cases i with
    | zero => simp at e; subst e; exact ⟨[], ms, .nil, hr2, .inr ⟨k, c, es, ns, rfl, hc, he, hr1, rfl, rfl⟩⟩
    | succ i =>
      obtain ⟨m1, m2, h1, h2, h3⟩ := ih2 (by simpa using e)
      refine ⟨(List.replicate (c + 1) ns).flatten ++ m1, m2, .rep hc he hr1 h1, h2, ?_⟩
      rcases h3 with ⟨m', a, b, e⟩ | ⟨k', c', es', ns', a1, a2, a3, a4, a5, a6⟩
      · exact .inl ⟨m', a, b, by rw [e, List.append_assoc]⟩
      · exact .inr ⟨k', c', es', ns', a1, a2, a3, a4, a5, by rw [a6, List.append_assoc]⟩
theorem RunD.append {mm : Nat} {cm : Int} {k : Nat} {ds es : List D} {ms ns : List Nat} (h : RunD mm cm k ds ms) : RunD mm cm k es ns → RunD mm cm k (ds ++ es) (ms ++ ns) := by
  induction h with
  | nil => exact fun q => q
  | one h _ ih => exact fun q => .one h (ih q)
  | rep h n h1 _ _ ih2 => exact fun q => by rw [List.cons_append, List.append_assoc]; exact .rep h n h1 (ih2 q)
theorem RunT.append {mm : Nat} {cm : Int} {k : Nat} {ds es : List D} {ms ns : List Nat} (h : RunT mm cm k ds ms) : RunT mm cm k es ns → RunT mm cm k (ds ++ es) (ms ++ ns) := by
  induction h with
  | nil => exact fun q => q
  | one h _ ih => exact fun q => .one h (ih q)
  | rep h l n h1 _ ih2 => exact fun q => by rw [List.cons_append, List.append_assoc]; exact .rep h l n h1 (ih2 q)
theorem RunD.more {mm : Nat} {cm cn : Int} (hc : cm ≤ cn) {k : Nat} {ds : List D} {ms : List Nat} (h : RunD mm cm k ds ms) : RunD mm cn k ds ms := by
  induction h with
  | nil => exact .nil
  | one h _ ih => exact .one h ih
  | rep h n _ _ ih1 ih2 => exact .rep (by omega) n ih1 ih2
theorem RunD.pos {mm : Nat} {cm : Int} {k : Nat} {ds : List D} {ms : List Nat} (h : RunD mm cm k ds ms) (hd : ds ≠ []) : ms ≠ [] := by
  induction h with
  | nil => exact absurd rfl hd
  | one => simp
  | rep _ he _ _ ih1 _ =>
    have := ih1 he.1
    intro z
    have z := (List.append_eq_nil_iff.mp z).1
    rw [List.replicate_succ, List.flatten_cons] at z
    exact this (List.append_eq_nil_iff.mp z).1
theorem Bk.stop_some {b : Bk} : ∀ (ms : List Nat) (s : Nat → Int) (i : Nat), b.stop s ms = some i → b.stop s (ms.take i) = none ∧ ∃ m, ms[i]? = some m ∧ ¬ b.Lets (fun k => s k + b.chg (ms.take i) k) m
  | [], _, _, h => by cases h
  | m :: ms, s, i, h => by
    rw [stop_cons] at h
    by_cases z : b.Lets s m
    · rw [if_pos z] at h
      obtain ⟨j, hj, rfl⟩ := Option.map_eq_some_iff.mp h
      obtain ⟨h1, m', h2, h3⟩ := stop_some ms _ j hj
      refine ⟨by rw [List.take_succ_cons, stop_cons, if_pos z, h1]; rfl, m', by simpa using h2, fun y => h3 fun k hk => ?_⟩
      have this : b.tk m' k ≤ s k + b.chg ((m :: ms).take (j + 1)) k := y k hk
      rw [List.take_succ_cons, chg] at this
      show b.tk m' k ≤ s k + b.gain m k + b.chg (ms.take j) k
      omega
    · rw [if_neg z] at h
      cases h
      refine ⟨rfl, m, rfl, fun y => z fun k hk => ?_⟩
      have := y k hk
      simp [chg] at this
      exact this
/-- a repetition with no rounds is none -/
theorem RunD.rep0 {mm : Nat} {cm : Int} {k : Nat} {es : List D} {ns : List Nat} (c : Nat) (hc : (c : Int) ≤ cm) (he : es ≠ [] ∧ es.length ≤ 1000) (h : RunD mm cm k es ns) :
    RunD mm cm (k + 1) (if 0 < c then [.tuple [.str "rep", .int (c : Int), .tuple es]] else []) (List.replicate c ns).flatten := by
  cases c with
  | zero => exact .nil
  | succ c =>
    rw [if_pos (Nat.succ_pos c)]
    have := RunD.rep (c := c) (by omega) he h (RunD.nil (mm := mm) (cm := cm) (k := k + 1))
    rw [List.append_nil] at this
    exact this
end Pu
/-! Pk: constants of the module; small facts. -/
namespace Pu
open PySem PySem.Spec PyProof.Rows L2 R
section
variable {K : PySem.W.Frag} {mg : Str → Option Value} {h : Heap} {x : Str}
theorem con_mk_int (X : K.In h) (G : h.Ns mainGlobals mg) {i : Int} {t : Tok} (a : PySem.W.nsIn K mainGlobals x = some (some (.int i t))) : GCon K mg x (.int i) :=
  ⟨.int i, .int i t, PySem.W.mg_of X G a, ⟨t, rfl⟩, fun _ _ => .int i⟩
theorem con_mk_str (X : K.In h) (G : h.Ns mainGlobals mg) {i : Str} {t : Tok} (a : PySem.W.nsIn K mainGlobals x = some (some (.str i t))) : GCon K mg x (.str i) :=
  ⟨.str i, .str i t, PySem.W.mg_of X G a, ⟨t, rfl⟩, fun _ _ => .str i⟩
end
theorem cat_ok {xs ys : List D} (h : xs.length + ys.length ≤ 100000) : catR (.list xs) (.list ys) = R.ret (xs ++ ys) := by
  have hz : xs.length + ys.length ≤ sizeLine := Nat.le_trans h (by show 100000 ≤ 2 ^ 24; decide)
  simp only [catR, hz, if_true]
theorem addl_ok {xs ys : List D} (h : xs.length + ys.length ≤ 100000) : addR (.list xs) (.list ys) = R.ret (.list (xs ++ ys)) := by
  have hz : xs.length + ys.length ≤ sizeLine := Nat.le_trans h (by show 100000 ≤ 2 ^ 24; decide)
  simp only [addR, hz, if_true]
end Pu
/-! Poe: plain reasoning about results that may be errors. -/
namespace Pu
open PySem R
/-! ### results that may be errors -/
structure OkE {α : Type} (r : R α) (Q : α → Prop) (E : Nat → D → Prop) : Prop where
  w : r.wp Q E
section
variable {α β : Type} {P : α → Prop} {E : Nat → D → Prop}
theorem oke_step {r : R α} {f : α → R β} {Q : β → Prop} (h : OkE r P E) (k : ∀ a, P a → OkE (f a) Q E) : OkE (r.bind f) Q E := ⟨wp_bind.mpr (wp_mono (fun a p => (k a p).w) (fun _ _ z => z) h.w)⟩
theorem oke_mono {r : R α} {Q : α → Prop} (h : OkE r P E) (k : ∀ a, P a → Q a) : OkE r Q E := ⟨wp_mono k (fun _ _ z => z) h.w⟩
theorem oke_ret {a : α} (h : P a) : OkE (R.ret a) P E := ⟨h⟩
theorem oke_exc {c : Nat} {x : D} (h : E c x) : OkE (R.exc c x : R α) P E := ⟨h⟩
theorem oke_nx {r : R α} (h : Ok r P) : OkE (nx r) P E := ⟨nx_ok h⟩
theorem oke_nx_ret {a : α} (h : P a) : OkE (nx (R.ret a)) P E := ⟨h⟩
theorem ok_of {r : R α} (h : OkE r P E) (k : ∀ a c x, E c x → ¬ P a → False) (k2 : ∀ c x, E c x → False) : Ok (nx r) P := ⟨by
  have : r.wp P fun _ _ => False := wp_mono (fun _ z => z) (fun c x z => k2 c x z) h.w
  exact nx_ok ⟨this⟩⟩
end
section
variable {S S' B T : Type} {E : Nat → D → Prop}
theorem oke_seqP {P : S → Prop} {r : R (Out S B T)} {f : S → R (Out S' B T)} {Q : Out S' B T → Prop} (h : OkE r (fun o => match o with
    | .nx s => P s
    | .bk b => Q (.bk b)
    | .ct b => Q (.ct b)
    | .rt d t => Q (.rt d t)) E) (k : ∀ s, P s → OkE (f s) Q E) : OkE (seqR r f) Q E := by
  unfold seqR
  refine oke_step h fun o ho => ?_
  cases o with
  | nx s => exact k s ho
  | bk b => exact oke_ret ho
  | ct b => exact oke_ret ho
  | rt d t => exact oke_ret ho
theorem oke_end {r : R (Out Unit Empty T)} {Q : D → Prop} (h : OkE r (fun o => match o with
    | .nx _ => Q .none
    | .rt d _ => Q d
    | .bk _ => True
    | .ct _ => True) E) : OkE (endR0 r) Q E := by
  unfold endR0
  refine oke_step h fun o ho => ?_
  cases o with
  | nx s => exact oke_ret ho
  | rt d t => exact oke_ret ho
  | bk b => exact b.elim
  | ct b => exact b.elim
theorem oke_up {r : R (Out Empty B T)} {Q : Out S B T → Prop} (h : OkE r (fun o => match o with
    | .nx s => s.elim
    | .bk b => Q (.bk b)
    | .ct b => Q (.ct b)
    | .rt d t => Q (.rt d t)) E) : OkE (up r) Q E := by
  unfold up
  refine oke_step h fun o ho => ?_
  cases o with
  | nx s => exact s.elim
  | bk b => exact oke_ret ho
  | ct b => exact oke_ret ho
  | rt d t => exact oke_ret ho
end
section
variable {α S B T : Type} {E : Nat → D → Prop}
theorem oke_for {f : α → S → R (Out S S T)} {Q : Out S B T → Prop} {Inv : Nat → S → Prop} : ∀ {ds : List α} {s : S} (i : Nat), Inv i s →
    (∀ (j : Nat) (d : α) (s : S), ds[j]? = some d → Inv (i + j) s → OkE (f d s) (fun o => match o with
      | .nx s' => Inv (i + j + 1) s'
      | .ct s' => Inv (i + j + 1) s'
      | .bk s' => Q (.nx s')
      | .rt d t => Q (.rt d t)) E) → (∀ s, Inv (i + ds.length) s → Q (.nx s)) → OkE (forR f ds s) Q E
  | [], s, i, h0, hs, he => ⟨he s h0⟩
  | d :: ds, s, i, h0, hs, he => by
    unfold forR
    refine oke_step (hs 0 d s rfl h0) fun o h => ?_
    have go : ∀ s', Inv (i + 0 + 1) s' → OkE (forR f ds s') Q E := fun s' h => oke_for (i + 1) h (fun j d s e hi => by
      have := hs (j + 1) d s (by simpa using e) (by rw [show i + (j + 1) = i + 1 + j by omega]; exact hi)
      rw [show i + (j + 1) + 1 = i + 1 + j + 1 by omega] at this
      exact this) fun s hi => he s (by rw [List.length_cons, show i + (ds.length + 1) = i + 1 + ds.length by omega]; exact hi)
    cases o with
    | nx s' => exact go s' h
    | ct s' => exact go s' h
    | bk s' => exact ⟨h⟩
    | rt d t => exact ⟨h⟩
theorem oke_for0 {f : α → S → R (Out S S T)} {Q : Out S B T → Prop} {ds : List α} {s : S} (Inv : Nat → S → Prop) (h0 : Inv 0 s)
    (hs : ∀ (j : Nat) (d : α) (s : S), ds[j]? = some d → Inv j s → OkE (f d s) (fun o => match o with
      | .nx s' => Inv (j + 1) s'
      | .ct s' => Inv (j + 1) s'
      | .bk s' => Q (.nx s')
      | .rt d t => Q (.rt d t)) E) (he : ∀ s, Inv ds.length s → Q (.nx s)) : OkE (forR f ds s) Q E :=
  oke_for (Inv := Inv) 0 h0 (fun j d s e hi => by
    rw [Nat.zero_add] at hi ⊢
    exact hs j d s e hi) fun s hi => he s (by rw [Nat.zero_add] at hi; exact hi)
end
end Pu
/-! Pds: plain reasoning about dicts: holdings by places, what is under way by tickets; sorted keys. -/
namespace Pu
open PySem R
/-! ### lists -/
theorem comp_flt {α β : Type} {cf : α → R Bool} {f : α → R β} {γ : Type} {h : γ → α} {p : γ → Bool} {q : γ → β} : ∀ {l : List γ} {acc : List β}, (∀ c ∈ l, cf (h c) = R.ret (p c)) → (∀ c ∈ l, p c = true → f (h c) = R.ret (q c)) → acc.length + l.length ≤ sizeLine →
    compR cf f (l.map h) acc = R.ret (acc ++ (l.filter p).map q)
  | [], acc, _, _, _ => by simp [compR]
  | c :: l, acc, h1, h2, hl => by
    rw [List.length_cons] at hl
    rw [List.map_cons]
    unfold compR
    rw [h1 c List.mem_cons_self]
    simp only [nx_ret, ret_bind]
    cases e : p c with
    | true =>
      rw [if_pos rfl, h2 c List.mem_cons_self e]
      simp only [nx_ret, ret_bind]
      rw [if_pos (by omega), comp_flt (fun d hd => h1 d (List.mem_cons_of_mem _ hd)) (fun d hd => h2 d (List.mem_cons_of_mem _ hd)) (by rw [List.length_append]; simp only [List.length_cons, List.length_nil]; omega)]
      rw [List.filter_cons_of_pos e, List.map_cons, List.append_assoc]
      rfl
    | false =>
      rw [if_neg (by decide), comp_flt (fun d hd => h1 d (List.mem_cons_of_mem _ hd)) (fun d hd => h2 d (List.mem_cons_of_mem _ hd)) (by omega)]
      rw [List.filter_cons_of_neg (by rw [e]; decide)]
theorem comp_map {α β : Type} {f : α → R β} {γ : Type} {h : γ → α} {q : γ → β} {l : List γ} (h2 : ∀ c ∈ l, f (h c) = R.ret (q c)) (hl : l.length ≤ sizeLine) : compR (fun _ => R.ret true) f (l.map h) [] = R.ret (l.map q) := by
  have := comp_flt (cf := fun _ => R.ret true) (f := f) (h := h) (p := fun _ => true) (q := q) (l := l) (acc := []) (fun _ _ => rfl) (fun c hc _ => h2 c hc) (by simpa using hl)
  rw [this, List.filter_eq_self.mpr (fun _ _ => rfl), List.nil_append]
/-- with errors' tests, draws allowed in the element -/
theorem any_ints (ns : List Int) : anyT (.tuple (ns.map PyData.int)) = R.ret (.bool (ns.any fun i => decide (i ≠ 0))) := by
  unfold anyT
  have h : ((ns.map PyData.int).all plainIB) = true := by
    rw [List.all_map]
    exact List.all_eq_true.mpr fun _ _ => rfl
  simp only [h, if_true]
  congr 2
  rw [List.any_map]
  apply List.any_congr rfl
  intro i
  show PyData.truthy (.int i) = _
  unfold PyData.truthy
  by_cases e : i = 0
  · rw [e]; decide
  · rw [decide_eq_true e]
    simp [e]
theorem any_vec {n : Nat} {s : Nat → Int} : anyT (vec n s) = R.ret (.bool (decide (∃ k, k < n ∧ s k ≠ 0))) := by
  have e : vec n s = .tuple (((List.range n).map s).map PyData.int) := by unfold vec vecL; rw [List.map_map]; rfl
  rw [e, any_ints]
  congr 2
  apply Bool.eq_iff_iff.mpr
  rw [List.any_eq_true, decide_eq_true_iff]
  constructor
  · rintro ⟨x, hx, h⟩
    obtain ⟨k, hk, rfl⟩ := List.mem_map.mp hx
    exact ⟨k, List.mem_range.mp hk, of_decide_eq_true h⟩
  · rintro ⟨k, hk, h⟩
    exact ⟨s k, List.mem_map.mpr ⟨k, List.mem_range.mpr hk, rfl⟩, decide_eq_true h⟩
/-! ### places -/
abbrev Plc := Fin 7
def sh (a : Plc) : Str := match a.val with
  | 0 => "east"
  | 1 => "east"
  | 2 => "east"
  | 3 => "north"
  | _ => "west"
def pl (a : Plc) : Str := match a.val with
  | 0 => "ann"
  | 1 => "bob"
  | 2 => "cy"
  | 3 => "dot"
  | 4 => "ann"
  | 5 => "bob"
  | _ => "cy"
def keyP (a : Plc) : List L2.Key := [.inr (sh a), .inr (pl a)]
def pD (a : Plc) : D := .tuple [.str (sh a), .str (pl a)]
theorem keys_pD (a : Plc) : keysOf (pD a) = some (keyP a) := rfl
theorem keyP_inj : ∀ a b : Plc, keyP a = keyP b → a = b := by
  have h : ∀ a b : Plc, (sh a = sh b ∧ pl a = pl b) → a = b := by decide +kernel
  intro a b e
  refine h a b ?_
  unfold keyP at e
  simp only [List.cons.injEq, Sum.inr.injEq, and_true] at e
  exact e
theorem keyP_iff {a b : Plc} : keyP a = keyP b ↔ a = b := ⟨keyP_inj a b, fun e => by rw [e]⟩
abbrev Hd := List (Plc × (Nat → Int))
def encH (n : Nat) (h : Hd) : List (List L2.Key × D) := h.map fun p => (keyP p.1, vec n p.2)
def keysH (h : Hd) : List Plc := h.map (·.1)
def lookH (h : Hd) (a : Plc) : Option (Nat → Int) := (h.find? fun p => decide (p.1 = a)).map (·.2)
def putH (h : Hd) (a : Plc) (v : Nat → Int) : Hd := if (lookH h a).isSome = true then h.map fun p => if p.1 = a then (p.1, v) else p else h ++ [(a, v)]
def bal (h : Hd) (a : Plc) (k : Nat) : Int := ((lookH h a).getD fun _ => 0) k
section
variable {n : Nat} {h : Hd} {a b : Plc} {v z : Nat → Int}
theorem val_enc : ∀ (h : Hd), valD (encH n h) (keyP a) = (lookH h a).map (vec n)
  | [] => rfl
  | p :: h => by
    have ih := val_enc h
    unfold valD lookH encH at *
    rw [List.map_cons, List.find?_cons, List.find?_cons]
    by_cases e : p.1 = a
    · rw [decide_eq_true (show keyP p.1 = keyP a by rw [e]), decide_eq_true e]
      rfl
    · rw [decide_eq_false (fun q => e (keyP_inj _ _ q)), decide_eq_false e]
      exact ih
theorem put_enc : putD (encH n h) (keyP a) (vec n v) = encH n (putH h a v) := by
  unfold putD putH
  rw [val_enc, Option.isSome_map]
  by_cases e : (lookH h a).isSome = true
  · rw [if_pos e, if_pos e]
    unfold encH
    rw [List.map_map, List.map_map]
    apply List.map_congr_left
    intro p _
    show (if keyP p.1 = keyP a then (keyP p.1, vec n v) else (keyP p.1, vec n p.2)) = _
    by_cases q : p.1 = a
    · rw [if_pos (by rw [q])]
      show _ = (keyP (if p.1 = a then (p.1, v) else p).1, vec n (if p.1 = a then (p.1, v) else p).2)
      rw [if_pos q]
    · rw [if_neg (fun y => q (keyP_inj _ _ y))]
      show _ = (keyP (if p.1 = a then (p.1, v) else p).1, vec n (if p.1 = a then (p.1, v) else p).2)
      rw [if_neg q]
  · rw [if_neg e, if_neg e]
    unfold encH
    rw [List.map_append]
    rfl
theorem look_mem : ∀ {h : Hd}, (lookH h a).isSome = true ↔ a ∈ keysH h
  | [] => by simp [lookH, keysH]
  | p :: h => by
    have ih : (lookH h a).isSome = true ↔ a ∈ keysH h := look_mem
    unfold lookH keysH at *
    rw [List.find?_cons, List.map_cons, List.mem_cons]
    by_cases e : p.1 = a
    · rw [decide_eq_true e]
      simp [e]
    · rw [decide_eq_false e]
      simp only [ih]
      constructor
      · exact .inr
      · rintro (q | q)
        · exact absurd q.symm e
        · exact q
theorem find_map_put : ∀ (h : Hd), lookH (h.map fun p => if p.1 = a then (p.1, v) else p) b = if b = a then (lookH h a).map fun _ => v else lookH h b
  | [] => by simp [lookH]
  | p :: h => by
    have ih := find_map_put h
    unfold lookH at *
    rw [List.map_cons, List.find?_cons, List.find?_cons, List.find?_cons]
    by_cases e : p.1 = a
    · simp only [e, if_true]
      by_cases q : b = a
      · simp [q]
      · rw [decide_eq_false (fun y => q y.symm), if_neg q]
        simp only [if_neg q] at ih
        exact ih
    · rw [decide_eq_false e, if_neg e]
      by_cases q : b = a
      · rw [if_pos q, decide_eq_false (fun y => e (y.trans q))]
        simp only [if_pos q] at ih
        exact ih
      · rw [if_neg q]
        simp only [if_neg q] at ih
        by_cases w : p.1 = b
        · rw [decide_eq_true w]
        · rw [decide_eq_false w]
          exact ih
theorem look_put : lookH (putH h a v) b = if b = a then some v else lookH h b := by
  unfold putH
  by_cases e : (lookH h a).isSome = true
  · rw [if_pos e, find_map_put]
    by_cases q : b = a
    · rw [if_pos q, if_pos q]
      obtain ⟨w, hw⟩ := Option.isSome_iff_exists.mp e
      rw [hw]; rfl
    · rw [if_neg q, if_neg q]
  · rw [if_neg e]
    unfold lookH at *
    rw [List.find?_append]
    by_cases q : b = a
    · rw [if_pos q, q]
      cases w : List.find? (fun p => decide (p.1 = a)) h with
      | some y => rw [w] at e; simp at e
      | none => simp
    · rw [if_neg q]
      cases w : List.find? (fun p => decide (p.1 = b)) h with
      | some y => simp
      | none => simp [Ne.symm q]
theorem bal_put {k : Nat} : bal (putH h a v) b k = if b = a then v k else bal h b k := by
  unfold bal
  rw [look_put]
  by_cases q : b = a
  · rw [if_pos q, if_pos q]; rfl
  · rw [if_neg q, if_neg q]
theorem keys_put : keysH (putH h a v) = if a ∈ keysH h then keysH h else keysH h ++ [a] := by
  unfold putH
  by_cases e : (lookH h a).isSome = true
  · rw [if_pos e, if_pos (look_mem.mp e)]
    unfold keysH
    rw [List.map_map]
    apply List.map_congr_left
    intro p _
    show (if p.1 = a then (p.1, v) else p).1 = p.1
    by_cases q : p.1 = a
    · rw [if_pos q]
    · rw [if_neg q]
  · rw [if_neg e, if_neg (fun q => e (look_mem.mpr q))]
    unfold keysH
    rw [List.map_append]
    rfl
theorem nodup_put (hn : (keysH h).Nodup) : (keysH (putH h a v)).Nodup := by
  rw [keys_put]
  by_cases e : a ∈ keysH h
  · rw [if_pos e]; exact hn
  · rw [if_neg e]
    rw [List.nodup_append]
    refine ⟨hn, by simp, fun x hx y hy => ?_⟩
    simp at hy
    rw [hy]
    exact fun z => e (z ▸ hx)
theorem mem_put : b ∈ keysH (putH h a v) ↔ b = a ∨ b ∈ keysH h := by
  rw [keys_put]
  by_cases e : a ∈ keysH h
  · rw [if_pos e]
    exact ⟨.inr, fun q => q.elim (fun q => q ▸ e) id⟩
  · rw [if_neg e, List.mem_append]
    simp [or_comm]
theorem bal_out (e : a ∉ keysH h) : bal h a = fun _ => 0 := by
  unfold bal
  cases q : lookH h a with
  | none => rfl
  | some w => exact absurd (look_mem.mp (by rw [q]; rfl)) e
theorem look_in (e : a ∈ keysH h) : lookH h a = some (bal h a) := by
  obtain ⟨w, hw⟩ := Option.isSome_iff_exists.mp (look_mem.mpr e)
  unfold bal
  rw [hw]
  rfl
theorem short7 (hn : (keysH h).Nodup) : (keysH h).length ≤ 7 := by
  have := hn.length_le_of_subset (l₂ := List.finRange 7) fun x _ => List.mem_finRange x
  simpa using this
theorem dgetx_enc : dgetxR (.t (encH n h)) (pD a) (vec n z) = R.ret (vec n ((lookH h a).getD z)) := by
  unfold dgetxR
  show (match some (valD (encH n h) (keyP a)) with | some o => R.ret (o.getD (vec n z)) | _ => bad) = _
  rw [val_enc]
  cases lookH h a <;> rfl
theorem dgetx_bal : dgetxR (.t (encH n h)) (pD a) (vec n fun _ => 0) = R.ret (vec n (bal h a)) := dgetx_enc
theorem dget_bal (e : a ∈ keysH h) : dgetR (.t (encH n h)) (pD a) = R.ret (vec n (bal h a)) := by
  unfold dgetR
  show (match some (valD (encH n h) (keyP a)) with | some (some v) => R.ret v | _ => bad) = _
  rw [val_enc, look_in e]
  rfl
theorem dput_enc (hn : (keysH h).Nodup) : dputT (encH n h) (pD a) (vec n v) = R.ret (encH n (putH h a v)) := by
  unfold dputT
  show (if (encH n h).length < sizeLine then R.ret (putD (encH n h) (keyP a) (vec n v)) else bad) = _
  rw [if_pos ?_, put_enc]
  have := short7 hn
  unfold encH
  rw [List.length_map]
  unfold keysH at this
  rw [List.length_map] at this
  exact Nat.lt_of_le_of_lt this (by decide)
/-! sorted places -/
theorem pD_le : ∀ a b : Plc, PySem.W.dataLe false (id : D → D) (pD a) (pD b) = decide (a ≤ b) := by decide +kernel
theorem pD_alike : ∀ a b : Plc, PySem.W.alike (pD a) (pD b) = true := by decide +kernel
theorem pD_depth : ∀ a : Plc, (pD a).depth ≤ 60 := by decide +kernel
def srtP (ks : List Plc) : List Plc := (List.finRange 7).filter fun a => decide (a ∈ ks)
theorem srt_places {ks : List Plc} (hn : ks.Nodup) : srtD (ks.map pD) = (srtP ks).map pD := by
  unfold srtD
  rw [← List.map_mergeSort (r := fun a b => decide (a ≤ b)) (f := pD) fun a _ b _ => (pD_le a b).symm]
  congr 1
  have p1 : (ks.mergeSort fun a b => decide (a ≤ b)).Pairwise fun a b => a ≤ b := by
    have := List.pairwise_mergeSort (le := fun a b : Plc => decide (a ≤ b)) (fun a b c h1 h2 => decide_eq_true (Nat.le_trans (of_decide_eq_true h1) (of_decide_eq_true h2))) (fun a b => by
      rw [Bool.or_eq_true]
      exact (Nat.le_total a.val b.val).imp (fun h => decide_eq_true h) fun h => decide_eq_true h) ks
    exact this.imp fun h => of_decide_eq_true h
  have p2 : (srtP ks).Pairwise fun a b => a ≤ b := by
    refine List.Pairwise.filter _ ?_
    have : (List.finRange 7).Pairwise (fun a b => a ≤ b) := by decide
    exact this
  have n2 : (srtP ks).Nodup := by
    have : (List.finRange 7).Nodup := by decide
    exact List.Pairwise.filter _ this
  refine List.Perm.eq_of_pairwise (le := fun a b => a ≤ b) (fun a b _ _ h1 h2 => Fin.le_antisymm h1 h2) p1 p2 ?_
  refine (List.mergeSort_perm _ _).trans ?_
  refine (List.perm_ext_iff_of_nodup hn n2).mpr fun a => ?_
  unfold srtP
  rw [List.mem_filter, decide_eq_true_iff]
  exact ⟨fun h => ⟨List.mem_finRange a, h⟩, fun h => h.2⟩
theorem ctk_enc : ctKeys (.t (encH n h)) = (keysH h).map pD := by
  show (encH n h).map (fun p => PyData.tuple (p.1.map keyD)) = _
  unfold encH keysH
  rw [List.map_map, List.map_map]
  rfl
theorem sort_places (hn : (keysH h).Nodup) : sortL (ctKeys (.t (encH n h))) = R.ret ((srtP (keysH h)).map pD) := by
  rw [ctk_enc]
  unfold sortL
  rw [if_pos ?_, srt_places hn]
  refine ⟨?_, by rw [List.length_map]; exact Nat.le_trans (short7 hn) (by decide)⟩
  unfold srtOk
  rw [Bool.and_eq_true, Bool.and_eq_true, Bool.or_eq_true]
  refine ⟨⟨?_, .inl ?_⟩, ?_⟩
  · rw [List.all_eq_true]
    intro d hd
    obtain ⟨a, _, rfl⟩ := List.mem_map.mp hd
    rw [List.all_eq_true]
    intro e he
    obtain ⟨b, _, rfl⟩ := List.mem_map.mp he
    exact pD_alike a b
  · rw [List.all_eq_true]
    intro d hd
    obtain ⟨a, _, rfl⟩ := List.mem_map.mp hd
    rfl
  · rw [List.all_eq_true]
    intro d hd
    obtain ⟨a, _, rfl⟩ := List.mem_map.mp hd
    exact decide_eq_true (pD_depth a)
/-- what is shown of holdings that are f -/
def shownL (n : Nat) (f : Plc → Nat → Int) : List D := ((List.finRange 7).filter fun a => decide (∃ k, k < n ∧ f a k ≠ 0)).map fun a => .tuple [.str (sh a), .str (pl a), vec n (f a)]
theorem shown_flt (h : Hd) : ((srtP (keysH h)).filter fun a => decide (∃ k, k < n ∧ bal h a k ≠ 0)).map (fun a => PyData.tuple [.str (sh a), .str (pl a), vec n (bal h a)]) = shownL n (bal h) := by
  unfold shownL srtP
  rw [List.filter_filter]
  congr 1
  apply List.filter_congr
  intro a _
  by_cases e : a ∈ keysH h
  · rw [decide_eq_true e, Bool.and_true]
  · rw [decide_eq_false e, Bool.and_false]
    symm
    rw [decide_eq_false]
    rintro ⟨k, _, q⟩
    rw [bal_out e] at q
    exact q rfl
theorem mem_srtP {ks : List Plc} : a ∈ srtP ks ↔ a ∈ ks := by
  unfold srtP
  rw [List.mem_filter, decide_eq_true_iff]
  exact ⟨fun h => h.2, fun h => ⟨List.mem_finRange a, h⟩⟩
theorem srtP_len {ks : List Plc} : (srtP ks).length ≤ 7 := Nat.le_trans (List.length_filter_le _ _) (by simp)
end
/-! ### what is under way -/
abbrev Wy := List (Nat × (Nat → Int))
def encW (n : Nat) (w : Wy) : List (L2.Key × D) := w.map fun p => (.inl (p.1 : Int), vec n p.2)
def keysW (w : Wy) : List Nat := w.map (·.1)
section
variable {n t : Nat} {w : Wy} {v : Nat → Int}
theorem ctk_encW : ctKeys (.k (encW n w)) = ((keysW w).map Int.ofNat).map PyData.int := by
  show (encW n w).map (fun p => keyD p.1) = _
  unfold encW keysW
  rw [List.map_map, List.map_map, List.map_map]
  rfl
theorem sort_ints {ns : List Int} (hl : ns.length ≤ sizeLine) : sortL (ns.map PyData.int) = R.ret ((ns.mergeSort fun a b => decide (a ≤ b)).map PyData.int) := by
  unfold sortL
  rw [if_pos ?_]
  · unfold srtD
    rw [← List.map_mergeSort (r := fun a b => decide (a ≤ b)) (f := PyData.int) fun a _ b _ => ?_]
    have := PySem.W.dataLe_int (β := Int) id
    exact (congrFun (congrFun this a) b).symm
  · refine ⟨?_, by rw [List.length_map]; exact hl⟩
    unfold srtOk
    rw [Bool.and_eq_true, Bool.and_eq_true, Bool.or_eq_true]
    refine ⟨⟨?_, .inr ?_⟩, ?_⟩
    · rw [List.all_eq_true]
      intro d hd
      obtain ⟨a, _, rfl⟩ := List.mem_map.mp hd
      rw [List.all_eq_true]
      intro e he
      obtain ⟨b, _, rfl⟩ := List.mem_map.mp he
      simp [PySem.W.alike]
    · rw [List.all_eq_true]
      intro d hd
      obtain ⟨a, _, rfl⟩ := List.mem_map.mp hd
      rfl
    · rw [List.all_eq_true]
      intro d hd
      obtain ⟨a, _, rfl⟩ := List.mem_map.mp hd
      exact decide_eq_true (by show (0 : Nat) ≤ 60; decide)
def lookW (w : Wy) (t : Nat) : Option (Nat → Int) := (w.find? fun p => decide (p.1 = t)).map (·.2)
theorem val_encW : ∀ (w : Wy), valD (encW n w) (Sum.inl (t : Int)) = (lookW w t).map (vec n)
  | [] => rfl
  | p :: w => by
    have ih := val_encW w
    unfold valD lookW encW at *
    rw [List.map_cons, List.find?_cons, List.find?_cons]
    by_cases e : p.1 = t
    · rw [decide_eq_true (show (Sum.inl (p.1 : Int) : L2.Key) = Sum.inl (t : Int) by rw [e]), decide_eq_true e]
      rfl
    · rw [decide_eq_false (fun q => e (by injection q with q; omega)), decide_eq_false e]
      exact ih
theorem lookW_mem : ∀ {w : Wy}, (lookW w t).isSome = true ↔ t ∈ keysW w
  | [] => by simp [lookW, keysW]
  | p :: w => by
    have ih : (lookW w t).isSome = true ↔ t ∈ keysW w := lookW_mem
    unfold lookW keysW at *
    rw [List.find?_cons, List.map_cons, List.mem_cons]
    by_cases e : p.1 = t
    · rw [decide_eq_true e]
      simp [e]
    · rw [decide_eq_false e]
      simp only [ih]
      exact ⟨.inr, fun q => q.elim (fun q => absurd q.symm e) id⟩
def putW (w : Wy) (t : Nat) (v : Nat → Int) : Wy := if (lookW w t).isSome = true then w.map fun p => if p.1 = t then (p.1, v) else p else w ++ [(t, v)]
theorem put_encW : putD (encW n w) (Sum.inl (t : Int)) (vec n v) = encW n (putW w t v) := by
  unfold putD putW
  rw [val_encW, Option.isSome_map]
  by_cases e : (lookW w t).isSome = true
  · rw [if_pos e, if_pos e]
    unfold encW
    rw [List.map_map, List.map_map]
    apply List.map_congr_left
    intro p _
    show (if (Sum.inl (p.1 : Int) : L2.Key) = Sum.inl (t : Int) then ((Sum.inl (p.1 : Int) : L2.Key), vec n v) else (Sum.inl (p.1 : Int), vec n p.2)) = _
    by_cases q : p.1 = t
    · rw [if_pos (by rw [q])]
      show _ = ((Sum.inl (((if p.1 = t then (p.1, v) else p).1 : Nat) : Int) : L2.Key), vec n (if p.1 = t then (p.1, v) else p).2)
      rw [if_pos q]
    · rw [if_neg (fun y => q (by injection y with y; omega))]
      show _ = ((Sum.inl (((if p.1 = t then (p.1, v) else p).1 : Nat) : Int) : L2.Key), vec n (if p.1 = t then (p.1, v) else p).2)
      rw [if_neg q]
  · rw [if_neg e, if_neg e]
    unfold encW
    rw [List.map_append]
    rfl
def dropW (w : Wy) (t : Nat) : Wy := w.filter fun p => decide (p.1 ≠ t)
theorem drop_encW : dropD (encW n w) (Sum.inl (t : Int)) = encW n (dropW w t) := by
  unfold dropD dropW encW
  rw [List.filter_map]
  congr 1
  apply List.filter_congr
  intro p _
  show decide ((Sum.inl (p.1 : Int) : L2.Key) ≠ Sum.inl (t : Int)) = _
  rw [decide_eq_decide]
  constructor
  · exact fun q e => q (by rw [e])
  · exact fun e q => e (by injection q with q; omega)
theorem pop_encW (e : t ∈ keysW w) : ∃ v, dpopK (encW n w) (.int (t : Int)) = R.ret (vec n v, encW n (dropW w t)) := by
  obtain ⟨v, hv⟩ := Option.isSome_iff_exists.mp (lookW_mem.mpr e)
  refine ⟨v, ?_⟩
  unfold dpopK keyOf
  simp only [val_encW, hv, Option.map_some, drop_encW]
theorem dput_encW (hl : w.length < 1000) : dputK (encW n w) (.int (t : Int)) (vec n v) = R.ret (encW n (putW w t v)) := by
  unfold dputK keyOf
  simp only [put_encW]
  rw [if_pos]
  unfold encW
  rw [List.length_map]
  exact Nat.lt_trans hl (by decide)
theorem keys_putW : keysW (putW w t v) = if t ∈ keysW w then keysW w else keysW w ++ [t] := by
  unfold putW
  by_cases e : (lookW w t).isSome = true
  · rw [if_pos e, if_pos (lookW_mem.mp e)]
    unfold keysW
    rw [List.map_map]
    apply List.map_congr_left
    intro p _
    show (if p.1 = t then (p.1, v) else p).1 = p.1
    by_cases q : p.1 = t
    · rw [if_pos q]
    · rw [if_neg q]
  · rw [if_neg e, if_neg (fun q => e (lookW_mem.mpr q))]
    unfold keysW
    rw [List.map_append]
    rfl
theorem keys_dropW : keysW (dropW w t) = (keysW w).filter fun u => decide (u ≠ t) := by
  unfold keysW dropW
  rw [List.filter_map]
  rfl
theorem neE_W : neER (.k (encW n w)) = R.ret (.bool (!w.isEmpty)) := by
  show R.ret (PyData.bool (!(encW n w).isEmpty)) = _
  unfold encW
  cases w <;> rfl
theorem sort_W (hl : w.length ≤ 1000) : ∃ ts : List Nat, sortL (ctKeys (.k (encW n w))) = R.ret (ts.map fun t : Nat => PyData.int (t : Int)) ∧ ts.Perm (keysW w) ∧ ts.Pairwise (· ≤ ·) := by
  rw [ctk_encW, sort_ints (by rw [List.length_map]; unfold keysW; rw [List.length_map]; exact Nat.le_trans hl (by decide)),
    ← List.map_mergeSort (r := fun a b : Nat => decide (a ≤ b)) (f := Int.ofNat) fun a _ b _ => by
      show decide (a ≤ b) = decide ((a : Int) ≤ (b : Int))
      rw [decide_eq_decide]
      omega]
  refine ⟨_, by rw [List.map_map]; rfl, List.mergeSort_perm _ _, ?_⟩
  have := List.pairwise_mergeSort (le := fun a b : Nat => decide (a ≤ b)) (fun a b c h1 h2 => decide_eq_true (Nat.le_trans (of_decide_eq_true h1) (of_decide_eq_true h2))) (fun a b => by
      rw [Bool.or_eq_true]
      exact (Nat.le_total a b).imp (fun h => decide_eq_true h) fun h => decide_eq_true h) (keysW w)
  exact this.imp fun h => of_decide_eq_true h
end
/-! ### handing back dicts -/
theorem decT_H {n : Nat} {h : Hd} : decT (encT (encH n h)) = some (encH n h) := decT_encT _
theorem decK_W {n : Nat} {w : Wy} : decK (encK (encW n w)) = some (encW n w) := decK_encK _
end Pu
/-! Ptt: texts by their signs, plainly. -/
namespace Pu
open PySem R TL
/-- a text by its signs -/
def tx (l : List Nat) : Str := ⟨l.toArray⟩
def tD (l : List Nat) : D := .str (tx l)
def tMax : Nat := 1000000
theorem tMax_le : tMax ≤ sizeLine := by decide
section
variable {a b l S : List Nat} {c i j n : Nat}
theorem tl_tx : tl (tx l) = l := List.toList_toArray
theorem tx_tl {x : Str} : tx (tl x) = x := by cases x with | mk cps => show Str.mk cps.toList.toArray = _; rw [Array.toArray_toList]
theorem tx_len : (tx l).length = l.length := rfl
theorem tx_inj : tx a = tx b ↔ a = b := ⟨fun h => by have := congrArg tl h; rwa [tl_tx, tl_tx] at this, fun h => by rw [h]⟩
theorem tD_inj : tD a = tD b ↔ a = b := ⟨fun h => tx_inj.mp (by injection h), fun h => by rw [h]⟩
theorem tx_app : tx a ++ tx b = tx (a ++ b) := by
  show Str.mk (a.toArray ++ b.toArray) = Str.mk (a ++ b).toArray
  rw [List.append_toArray]
theorem add_tx (h : a.length + b.length ≤ tMax) : addR (tD a) (tD b) = R.ret (tD (a ++ b)) := by
  show (if (tx a).length + (tx b).length ≤ sizeLine then R.ret (PyData.str (tx a ++ tx b)) else bad) = _
  rw [tx_len, tx_len, if_pos (Nat.le_trans h tMax_le), tx_app]
  rfl
/-- plain signs -/
def Sg (l : List Nat) : Prop := ∀ c ∈ l, c < 128
theorem Sg.app (ha : Sg a) (hb : Sg b) : Sg (a ++ b) := fun c hc => (List.mem_append.mp hc).elim (ha c) (hb c)
theorem Sg.lay (h : Sg l) : PyData.canLay0 (tD l) = true := by
  show PyData.strOk (tx l) = true
  unfold PyData.strOk tx
  rw [List.all_toArray, List.all_eq_true]
  exact fun c hc => decide_eq_true (Nat.lt_trans (h c hc) (by decide))
theorem eq_tx (ha : Sg a) (hb : Sg b) : eqR (tD a) (tD b) = R.ret (.bool (decide (a = b))) := by
  by_cases e : a = b
  · subst e
    rw [decide_eq_true rfl]
    exact eq_yes (k := 0) (by unfold Pl; exact ha.lay) (by decide)
  · rw [decide_eq_false e]
    exact eq_no (k := 0) (by unfold Pl; exact ha.lay) (by unfold Pl; exact hb.lay) (by decide) fun h => e (tD_inj.mp h)
theorem ne_tx (ha : Sg a) (hb : Sg b) : neR (tD a) (tD b) = R.ret (.bool (!decide (a = b))) := by
  by_cases e : a = b
  · subst e
    rw [decide_eq_true rfl]
    exact ne_no (k := 0) (by unfold Pl; exact ha.lay) (by decide)
  · rw [decide_eq_false e]
    exact ne_yes (k := 0) (by unfold Pl; exact ha.lay) (by unfold Pl; exact hb.lay) (by decide) fun h => e (tD_inj.mp h)
theorem len_tx (h : l.length ≤ tMax) : lenR (tD l) = R.ret (.int (l.length : Int)) := by
  show (if (tx l).length ≤ sizeLine then R.ret (PyData.int (tx l).length) else bad) = _
  rw [if_pos (show (tx l).length ≤ sizeLine from Nat.le_trans h tMax_le)]
  rfl
theorem Sg.kind (h : Sg S) : (tx S).cps.all (· < 256) = true := by
  unfold tx
  rw [List.all_toArray, List.all_eq_true]
  exact fun c hc => decide_eq_true (Nat.lt_trans (h c hc) (by decide))
theorem split_tx (hS : S ≠ []) (hg : Sg S) (hl : l.length + 2 ≤ tMax) : splitR (tx l) (tD S) = R.ret ((spl S 0 [] l).map tD) := by
  have e : Txt.split (tx l) (tx S) = (spl S 0 [] l).map tx := by
    have := split_spl (tx l) (tx S) (by rw [tl_tx]; exact hS) (kind_ok hg.kind)
    rw [tl_tx, tl_tx] at this
    rw [← this, List.map_map]
    exact (List.map_id'' (fun x => tx_tl) _).symm
  have h0 : ((tx S).length == 0) = false := by
    rw [tx_len]
    cases S with
    | nil => exact absurd rfl hS
    | cons s S => rfl
  show (if ((tx S).length == 0) = false ∧ (tx l).length + 2 ≤ sizeLine then R.ret ((Txt.split (tx l) (tx S)).map PyData.str) else bad) = _
  rw [if_pos ⟨h0, Nat.le_trans hl tMax_le⟩, e, List.map_map]
  rfl
theorem strs_tD (ls : List (List Nat)) : allSome strOf (ls.map tD) = some (ls.map tx) := by
  induction ls with
  | nil => rfl
  | cons x r ih => rw [List.map_cons, List.map_cons]; unfold allSome; rw [ih]; rfl
/-- the length of texts joined -/
def sumL (k : Nat) (ls : List (List Nat)) : Nat := (ls.map List.length).sum + ls.length * k
theorem joinT {ls : List (List Nat)} : Txt.join (tx S) (ls.map tx) = tx (TL.joinL S ls) := by
  rw [join_eq]
  apply tx_tl.symm.trans
  rw [tl_join, tl_tx, List.map_map]
  congr 2
  exact List.map_id'' (fun x => tl_tx) _
theorem join_tx {ls : List (List Nat)} (h : sumL S.length ls ≤ tMax) : joinR (tx S) (.list (ls.map tD)) = R.ret (tD (TL.joinL S ls)) := by
  simp only [joinR, strs_tD]
  show (if ((ls.map tx).map (·.length)).sum + (ls.map tx).length * (tx S).length ≤ 16777216 then R.ret (PyData.str (Txt.join (tx S) (ls.map tx))) else bad) = _
  have hh : ((ls.map tx).map (·.length)).sum + (ls.map tx).length * (tx S).length ≤ 16777216 := by
    rw [List.map_map, List.length_map]
    exact Nat.le_trans h (by decide)
  rw [if_pos hh, joinT]
  rfl
theorem join_txT {ls : List (List Nat)} (h : sumL S.length ls ≤ tMax) : joinR (tx S) (.tuple (ls.map tD)) = R.ret (tD (TL.joinL S ls)) := by
  simp only [joinR, strs_tD]
  show (if ((ls.map tx).map (·.length)).sum + (ls.map tx).length * (tx S).length ≤ 16777216 then R.ret (PyData.str (Txt.join (tx S) (ls.map tx))) else bad) = _
  have hh : ((ls.map tx).map (·.length)).sum + (ls.map tx).length * (tx S).length ≤ 16777216 := by
    rw [List.map_map, List.length_map]
    exact Nat.le_trans h (by decide)
  rw [if_pos hh, joinT]
  rfl
theorem joinL_len : ∀ ls : List (List Nat), (TL.joinL S ls).length ≤ sumL S.length ls
  | [] => Nat.zero_le _
  | [p] => by unfold sumL; simp [TL.joinL]
  | p :: q :: r => by
    have := joinL_len (q :: r)
    unfold sumL at this ⊢
    unfold TL.joinL
    rw [List.length_append, List.length_append, List.map_cons, List.sum_cons, List.length_cons, Nat.add_mul]
    omega
theorem num_str (n : Nat) : Str.ofString (toString ((n : Nat) : Int)) = tx (numL n) := by rw [← tl_num n, tx_tl]
theorem strI_num (h : n < 2 ^ 250) : strI (.int (n : Int)) = R.ret (tD (numL n)) := by
  show (if (n : Int).natAbs.log2 < 1920 then R.ret (PyData.str (Str.ofString (toString (n : Int)))) else bad) = _
  have hl : n.log2 < 1920 := by
    by_cases h0 : n = 0
    · subst h0; decide
    · exact (Nat.log2_lt h0).mpr (Nat.lt_of_lt_of_le h (Nat.pow_le_pow_right (n := 2) (by decide) (show 250 ≤ 1920 by decide)))
  rw [if_pos (by rw [Int.natAbs_natCast]; exact hl), num_str]
  rfl
theorem intT_num (h : (numL n).length ≤ 640) : intT (tD (numL n)) = R.ret (.int (n : Int)) := by
  have e := int_num (n := n) (Nat.le_trans h (by decide))
  rw [num_str] at e
  unfold intT tD
  simp only [e]
  rw [if_pos (by rw [tx_len]; exact h)]
theorem ix_tx (h : l[i]? = some c) (hl : l.length ≤ tMax) : ixR (tD l) (.int (i : Int)) = R.ret (tD [c]) := by
  show (if (tx l).length ≤ sizeLine then (match L2.atI (tx l).cps.toList (i : Int) with | some c => R.ret (PyData.str ⟨#[c]⟩) | none => bad) else bad) = _
  rw [if_pos (show (tx l).length ≤ sizeLine from Nat.le_trans hl tMax_le), L2.atI_nat (show (tx l).cps.toList[i]? = some c from h)]
  rfl
theorem ix_txN (hl : (l ++ [c]).length ≤ tMax) : ixR (tD (l ++ [c])) (.int (-1)) = R.ret (tD [c]) := by
  show (if (tx (l ++ [c])).length ≤ sizeLine then (match L2.atI (tx (l ++ [c])).cps.toList (-1) with | some c => R.ret (PyData.str ⟨#[c]⟩) | none => bad) else bad) = _
  have e : L2.atI (l ++ [c]) (-1) = some c := by
    unfold L2.atI L2.ixN
    rw [if_neg (by decide), if_pos (by rw [List.length_append]; simp only [List.length_cons, List.length_nil]; omega)]
    show (l ++ [c])[((-1 : Int) + ((l ++ [c]).length : Int)).toNat]? = some c
    have : ((-1 : Int) + ((l ++ [c]).length : Int)).toNat = l.length := by rw [List.length_append]; simp only [List.length_cons, List.length_nil]; omega
    rw [this]
    simp
  rw [if_pos (show (tx (l ++ [c])).length ≤ sizeLine from Nat.le_trans hl tMax_le), show (tx (l ++ [c])).cps.toList = l ++ [c] from tl_tx, e]
  rfl
theorem slice_tx {lo hi : Option Int} (hl : l.length ≤ tMax) : sliceR (tD l) lo hi = R.ret (tD ((l.drop (HT.sIx l.length 0 lo)).take (HT.sIx l.length l.length hi - HT.sIx l.length 0 lo))) := by
  show (if (tx l).length ≤ sizeLine then R.ret (PyData.str (L2.cutS (tx l) lo hi)) else bad) = _
  rw [if_pos (show (tx l).length ≤ sizeLine from Nat.le_trans hl tMax_le)]
  rfl
theorem slice_tnn (hl : l.length ≤ tMax) : sliceR (tD l) (some (i : Int)) (some (j : Int)) = R.ret (tD ((l.drop i).take (j - i))) := by
  rw [slice_tx hl, HT.sIx_nat, HT.sIx_nat]
  congr 2
  by_cases h : i ≤ l.length
  · rw [Nat.min_eq_left h]
    by_cases h2 : j ≤ l.length
    · rw [Nat.min_eq_left h2]
    · rw [Nat.min_eq_right (by omega), List.take_of_length_le (by rw [List.length_drop]; omega), List.take_of_length_le (by rw [List.length_drop]; omega)]
  · rw [Nat.min_eq_right (Nat.le_of_lt (Nat.lt_of_not_le h)), List.drop_length, List.drop_eq_nil_of_le (Nat.le_of_lt (Nat.lt_of_not_le h)), List.take_nil, List.take_nil]
theorem slice_tfrom (hl : l.length ≤ tMax) : sliceR (tD l) (some (i : Int)) none = R.ret (tD (l.drop i)) := by
  rw [slice_tx hl, HT.sIx_nat, HT.sIx_none]
  congr 2
  by_cases h : i ≤ l.length
  · rw [Nat.min_eq_left h]
    exact List.take_of_length_le (by rw [List.length_drop]; exact Nat.le_refl _)
  · rw [Nat.min_eq_right (by omega), List.drop_length, List.drop_eq_nil_of_le (by omega), List.take_nil]
theorem slice_tbut (hl : l.length ≤ tMax) (h1 : i < l.length) : sliceR (tD l) (some (i : Int)) (some (-1)) = R.ret (tD ((l.drop i).take (l.length - 1 - i))) := by
  have e : HT.sIx l.length l.length (some (-1)) = l.length - 1 := by
    show (if (-1 : Int) < 0 then ((-1 : Int) + (l.length : Int)).toNat else min (-1 : Int).toNat l.length) = _
    rw [if_pos (by decide)]
    omega
  rw [slice_tx hl, HT.sIx_nat, e, Nat.min_eq_left (by omega)]
theorem in_tx : inR (tD [c]) (tD S) = R.ret (.bool (decide (c ∈ S))) := rfl
theorem items_tx : itemsR (tD l) = R.ret (l.map fun c => tD [c]) := rfl
theorem str_tx {α : Type} {f : Str → R α} : (strR (tD l)).bind f = f (tx l) := rfl
end
/-! ### splitting -/
section
variable {s s2 : Nat} {S p rest acc : List Nat}
/-- the separator's second sign is not in the part -/
theorem free2 (h : s2 ∉ p) (hne : s2 ≠ s) : ∀ i, i < p.length → pre (s :: s2 :: S) ((p ++ (s :: s2 :: S ++ rest)).drop i) = false := fun i hi => by
  have e1 : (p ++ (s :: s2 :: S ++ rest))[i + 1]? ≠ some s2 := by
    by_cases h1 : i + 1 < p.length
    · rw [List.getElem?_append_left h1]
      exact fun z => h (List.mem_of_getElem? z)
    · have : i + 1 = p.length := by omega
      rw [List.getElem?_append_right (by omega), this, Nat.sub_self]
      exact fun z => hne (by injection z with z; exact z.symm)
  cases q : pre (s :: s2 :: S) ((p ++ (s :: s2 :: S ++ rest)).drop i) with
  | false => rfl
  | true =>
    exfalso
    have e := eq_of_beq (show (((p ++ (s :: s2 :: S ++ rest)).drop i).take (s :: s2 :: S).length == (s :: s2 :: S)) = true from q)
    have z := congrArg (fun l : List Nat => l[1]?) e
    simp only [List.length_cons, List.getElem?_take, List.getElem?_drop] at z
    exact e1 (by simpa using z)
theorem free2' (h : s2 ∉ p) : ∀ i, i < p.length → pre (s :: s2 :: S) (p.drop i) = false := fun i hi => by
  cases q : pre (s :: s2 :: S) (p.drop i) with
  | false => rfl
  | true =>
    exfalso
    have e := eq_of_beq (show ((p.drop i).take (s :: s2 :: S).length == (s :: s2 :: S)) = true from q)
    have z := congrArg (fun l : List Nat => l[1]?) e
    simp only [List.length_cons, List.getElem?_take, List.getElem?_drop] at z
    exact h (List.mem_of_getElem? (by simpa using z))
theorem spl_part2 (h : s2 ∉ p) (hne : s2 ≠ s) : spl (s :: s2 :: S) 0 acc (p ++ (s :: s2 :: S ++ rest)) = (acc ++ p) :: spl (s :: s2 :: S) 0 [] rest := spl_part (by simp) (free2 h hne)
theorem spl_last2 (h : s2 ∉ p) : spl (s :: s2 :: S) 0 acc p = [acc ++ p] := spl_last (free2' h)
theorem spl_join2 (hne : s2 ≠ s) : ∀ {ps : List (List Nat)}, ps ≠ [] → (∀ p ∈ ps, s2 ∉ p) → spl (s :: s2 :: S) 0 [] (TL.joinL (s :: s2 :: S) ps) = ps
  | [], h, _ => absurd rfl h
  | [p], _, h => by
    show spl (s :: s2 :: S) 0 [] p = [p]
    rw [spl_last2 (h p List.mem_cons_self), List.nil_append]
  | p :: q :: r, _, h => by
    show spl (s :: s2 :: S) 0 [] (p ++ (s :: s2 :: S ++ TL.joinL (s :: s2 :: S) (q :: r))) = p :: q :: r
    rw [spl_part2 (h p List.mem_cons_self) hne, List.nil_append, spl_join2 hne (by simp) fun z hz => h z (List.mem_cons_of_mem _ hz)]
end
end Pu
/-! What the defs of the text compute. -/
namespace k01
open Pu PySem R
def o_law_mix (v_law_first v_law_second : D) : R (Out Unit Empty Unit) := R.bind (R.bind (R.bind (R.bind (R.bind (R.bind (R.ret v_law_first) fun x => R.bind (R.ret (.int 48271)) fun y => mulR x y) fun x => R.bind (R.bind (R.ret v_law_second) fun x => R.bind (R.ret (.int 69621)) fun y => mulR x y) fun y => addR x y) fun x => R.bind (R.ret (.int 12345)) fun y => addR x y) fun x => intR x) fun x => R.bind (R.ret (.int 2147483647)) fun y => modR x y) fun v_law_value => R.bind (R.bind (R.bind (R.bind (R.bind (R.bind (R.ret v_law_value) fun x => R.bind (R.ret (.int 40692)) fun y => mulR x y) fun x => R.bind (R.bind (R.ret v_law_second) fun x => R.bind (R.ret (.int 7919)) fun y => mulR x y) fun y => addR x y) fun x => R.bind (R.ret (.int 1)) fun y => addR x y) fun x => intR x) fun x => R.bind (R.ret (.int 2147483399)) fun y => modR x y) fun d => R.ret (.rt d ())
def m_law_mix (v_law_first v_law_second : D) : R D := endR0 (o_law_mix v_law_first v_law_second)
def o_law_numbers (v_law_script : List D) (v_law_count : D) : R (Out Unit Empty Unit) := R.bind (R.ret []) fun v_law_found => R.bind (R.bind (R.ret (.int v_law_script.length)) fun x => R.bind (R.ret (.int 1)) fun y => addR x y) fun v_law_total => R.bind (R.bind (R.bind (R.ret none) fun l => R.bind (R.bind (R.ret (.int 63)) fun x => partR x) fun h => R.ret (.list (cutD v_law_script l h))) fun x => itemsR x) fun ds => seqR (S := (List D) × D) (forR (fun v_law_cell (s1 : (List D) × D) => R.bind (R.bind (R.ret v_law_cell) fun x => absR x) fun v_law_number => R.bind (R.bind (R.ret s1.2) fun x => R.bind (R.bind (R.bind (R.ret v_law_number) fun x => intR x) fun x => R.bind (R.ret (.int 2147483647)) fun y => modR x y) fun y => m_law_mix x y) fun v_law_total => R.bind (R.bind (R.ret v_law_number) fun x => R.bind (R.bind (R.ret (.int 10)) fun x => R.bind (R.ret (.int 18)) fun y => powR x y) fun y => R.bind (geR x y) boolR) fun b => if b = true then (R.bind (R.bind (R.ret (.int 60)) fun x => rng1R x) fun ds => seqR (S := (List D) × D) (forR (fun v_law_k (s2 : (List D) × D) => R.bind (R.bind (R.ret s2.2) fun x => R.bind (R.ret (.int 0)) fun y => R.bind (gtR x y) boolR) fun b => if b = true then (R.bind (R.bind (R.bind (R.ret s2.2) fun x => intR x) fun x => R.bind (R.ret (.int 1000)) fun y => modR x y) fun d => R.bind (appR s2.1 d) fun v_law_found => R.bind (R.bind (R.ret s2.2) fun x => R.bind (R.ret (.int 1000)) fun y => fdivR x y) fun v_law_number => R.ret (.nx (v_law_found, v_law_number))) else (R.ret (.nx (s2.1, s2.2)))) ds (s1.1, v_law_number)) fun s2 => R.ret (.nx (s2.1, v_law_total))) else (R.bind (R.bind (R.ret (.int 6)) fun x => rng1R x) fun ds => seqR (S := List D) (forR (fun v_law_k (s3 : List D) => R.bind (R.bind (R.bind (R.bind (R.ret v_law_number) fun x => R.bind (R.bind (R.ret v_law_k) fun x => R.bind (R.ret (.int 1)) fun y => addR x y) fun y => m_law_mix x y) fun x => intR x) fun x => R.bind (R.ret (.int 1000)) fun y => modR x y) fun d => R.bind (appR s3 d) fun v_law_found => R.ret (.nx v_law_found)) ds s1.1) fun s3 => R.ret (.nx (s3, v_law_total)))) ds (v_law_found, v_law_total)) fun s1 => R.bind (R.bind (R.ret v_law_count) fun x => rng1R x) fun ds => seqR (S := (List D) × D) (forR (fun v_law_k (s4 : (List D) × D) => R.bind (R.bind (R.bind (R.ret (.list s4.1)) fun x => lenR x) fun x => R.bind (R.ret v_law_count) fun y => R.bind (ltR x y) boolR) fun b => if b = true then (R.bind (R.bind (R.ret s4.2) fun x => R.bind (R.bind (R.ret v_law_k) fun x => R.bind (R.ret (.int 3)) fun y => addR x y) fun y => m_law_mix x y) fun v_law_total => R.bind (R.bind (R.bind (R.ret v_law_total) fun x => intR x) fun x => R.bind (R.ret (.int 1000)) fun y => modR x y) fun d => R.bind (appR s4.1 d) fun v_law_found => R.ret (.nx (v_law_found, v_law_total))) else (R.ret (.nx (s4.1, s4.2)))) ds (s1.1, s1.2)) fun s4 => R.bind (R.bind (R.ret (.list s4.1)) fun x => R.bind (R.ret none) fun l => R.bind (R.bind (R.ret v_law_count) fun x => partR x) fun h => sliceR x l h) fun d => R.ret (.rt d ())
def m_law_numbers (d e : D) : R D := match d with
  | .list ds => endR0 (o_law_numbers ds e)
  | _ => bad
def o_law_named : R (Out Unit Empty Unit) := R.bind (R.ret (.str "abcdefghijklmnopqrstuvwxyz")) fun v_law_small => R.bind (R.ret []) fun v_law_names => R.bind (R.bind (R.ret (.int 14)) fun x => rng1R x) fun ds => seqR (S := List D) (forR (fun v_law_k (s1 : List D) => R.bind (R.bind (R.bind (R.bind (R.ret (.int 0)) fun x => R.bind (R.ret (.int 0)) fun y => R.bind (R.ret (.int 1)) fun z => R.bind (R.ret (.int 2)) fun w => R.bind (R.ret (.int 9)) fun u => R.ret [x, y, z, w, u]) fun ds => R.ret (.list ds)) fun x => R.bind (R.bind (R.ret (.int 5)) fun x => drawR x) fun y => ixR x y) fun v_law_size => R.bind (R.bind (R.ret (.str "")) fun x => R.bind (strR x) fun x => R.bind (R.bind (R.bind (R.bind (R.ret v_law_size) fun x => rng1R x) fun ds => compR (fun _ => R.ret true) (fun v_law_n => (R.bind (R.bind (R.ret v_law_small) fun x => R.bind (R.ret (.str "0123456789")) fun y => addR x y) fun x => R.bind (R.bind (R.ret (.int 36)) fun x => drawR x) fun y => ixR x y)) ds []) fun ds => R.ret (.list ds)) fun y => joinR x y) fun v_law_rest => R.bind (R.bind (R.bind (R.bind (R.ret v_law_small) fun x => R.bind (R.bind (R.ret (.int 26)) fun x => drawR x) fun y => ixR x y) fun x => R.bind (R.ret v_law_rest) fun y => addR x y) fun x => R.bind (R.bind (R.ret (.str "abcdefghijklmn")) fun x => R.bind (R.ret v_law_k) fun y => ixR x y) fun y => addR x y) fun d => R.bind (appR s1 d) fun v_law_names => R.ret (.nx v_law_names)) ds v_law_names) fun s1 => R.ret (.rt (.list s1) ())
def m_law_named : R D := endR0 (o_law_named )
def o_law_stock (v_law_n v_law_most : D) : R (Out Unit Empty Unit) := R.bind (R.ret []) fun v_law_entries => R.bind (R.bind (R.ret v_law_n) fun x => rng1R x) fun ds => seqR (S := List D) (forR (fun v_law_k (s1 : List D) => R.bind (R.bind (R.bind (R.bind (R.ret (.int 0)) fun x => R.bind (R.ret (.int 0)) fun y => R.bind (R.ret (.int 1)) fun z => R.bind (R.ret (.int 2)) fun w => R.bind (R.bind (R.bind (R.ret v_law_most) fun x => R.bind (R.ret (.int 1)) fun y => addR x y) fun x => drawR x) fun u => R.bind (R.ret v_law_most) fun v => R.ret [x, y, z, w, u, v]) fun ds => R.ret (.list ds)) fun x => R.bind (R.bind (R.ret (.int 6)) fun x => drawR x) fun y => ixR x y) fun d => R.bind (appR s1 d) fun v_law_entries => R.ret (.nx v_law_entries)) ds v_law_entries) fun s1 => R.bind (R.bind (R.bind (R.bind (R.bind (R.ret (.list s1)) fun x => itemsR x) fun ds => compR (fun _ => R.ret true) (fun v_law_entry => (R.bind (R.ret v_law_most) fun x => R.bind (R.ret v_law_entry) fun y => minR x y)) ds []) fun ds => R.ret (.list ds)) fun x => tupleR x) fun d => R.ret (.rt d ())
def m_law_stock (v_law_n v_law_most : D) : R D := endR0 (o_law_stock v_law_n v_law_most)
def o_law_book (v_law_most : D) : R (Out Unit Empty Unit) := R.bind (m_law_named) fun v_law_names => R.bind (R.bind (R.ret (.int 1)) fun x => R.bind (R.bind (R.ret (.int 6)) fun x => drawR x) fun y => addR x y) fun v_law_n => R.bind (R.ret []) fun v_law_moves => R.bind (R.bind (R.bind (R.ret (.int 9)) fun x => drawR x) fun x => rng1R x) fun ds => seqR (S := List D) (forR (fun v_law_k (s1 : List D) => R.bind (R.bind (R.ret v_law_n) fun x => R.bind (R.ret v_law_most) fun y => m_law_stock x y) fun v_law_take_here => R.bind (R.bind (R.ret v_law_n) fun x => R.bind (R.ret v_law_most) fun y => m_law_stock x y) fun v_law_high => R.bind (R.ret v_law_high) fun v_law_low => R.bind (R.bind (R.bind (R.ret (.int 3)) fun x => drawR x) fun x => R.bind (R.ret (.int 0)) fun y => R.bind (eqR x y) boolR) fun b => seqR (S := D) (if b = true then (R.bind (R.bind (R.bind (R.bind (R.bind (R.ret v_law_high) fun x => itemsR x) fun ds => compR (fun _ => R.ret true) (fun v_law_entry => (R.bind (R.bind (R.ret v_law_entry) fun x => R.bind (R.ret (.int 1)) fun y => addR x y) fun x => drawR x)) ds []) fun ds => R.ret (.list ds)) fun x => tupleR x) fun v_law_low => R.ret (.nx v_law_low)) else (R.ret (.nx v_law_low))) fun s2 => R.bind (R.bind (R.bind (R.ret v_law_names) fun x => R.bind (R.bind (R.ret (.int 6)) fun x => R.bind (R.ret v_law_k) fun y => addR x y) fun y => ixR x y) fun x => R.bind (R.ret v_law_take_here) fun y => R.bind (R.ret s2) fun z => R.bind (R.ret v_law_high) fun w => R.ret (.tuple [x, y, z, w])) fun d => R.bind (appR s1 d) fun v_law_moves => R.ret (.nx v_law_moves)) ds v_law_moves) fun s1 => R.bind (R.bind (R.bind (R.bind (R.ret v_law_names) fun x => R.bind (R.ret none) fun l => R.bind (R.bind (R.ret v_law_n) fun x => partR x) fun h => sliceR x l h) fun x => tupleR x) fun x => R.bind (R.bind (R.ret (.list s1)) fun x => tupleR x) fun y => R.ret (.tuple [x, y])) fun d => R.ret (.rt d ())
def m_law_book (v_law_most : D) : R D := endR0 (o_law_book v_law_most)
def o_law_items (v_law_kinds v_law_words v_law_mixed : D) : R (Out Unit Empty Unit) := R.bind (R.bind (R.bind (R.bind (R.ret v_law_kinds) fun x => lenR x) fun x => rng1R x) fun ds => compR (fun v_law_k => (R.bind (R.bind (R.ret v_law_words) fun x => R.bind (R.ret v_law_k) fun y => ixR x y) fun x => R.bind (R.ret (.str "")) fun y => R.bind (neR x y) boolR)) (fun v_law_k => (R.bind (R.bind (R.bind (R.ret v_law_words) fun x => R.bind (R.ret v_law_k) fun y => ixR x y) fun x => R.bind (R.ret (.str " ")) fun y => addR x y) fun x => R.bind (R.bind (R.ret v_law_kinds) fun x => R.bind (R.ret v_law_k) fun y => ixR x y) fun y => addR x y)) ds []) fun v_law_items_here => R.bind (R.bind (R.ret v_law_mixed) fun x => boolR x) fun b => seqR (S := D) (if b = true then (R.bind (R.bind (R.bind (R.bind (R.ret (.list v_law_items_here)) fun x => lenR x) fun x => R.bind (R.ret (.int 1)) fun y => addR x y) fun x => drawR x) fun v_law_at => R.bind (R.bind (R.bind (R.ret (.list v_law_items_here)) fun x => R.bind (R.bind (R.ret v_law_at) fun x => partR x) fun l => R.bind (R.ret none) fun h => sliceR x l h) fun x => R.bind (R.bind (R.ret (.list v_law_items_here)) fun x => R.bind (R.ret none) fun l => R.bind (R.bind (R.ret v_law_at) fun x => partR x) fun h => sliceR x l h) fun y => addR x y) fun v_law_items_here => R.bind (R.bind (R.bind (R.ret (.int 2)) fun x => drawR x) fun x => R.bind (R.ret (.int 0)) fun y => R.bind (eqR x y) boolR) fun b => if b = true then (R.bind (R.bind (R.ret v_law_items_here) fun x => revLR x) fun v_law_items_here => R.ret (.nx v_law_items_here)) else (R.ret (.nx v_law_items_here))) else (R.ret (.nx (.list v_law_items_here)))) fun s1 => R.bind (R.bind (R.ret s1) fun x => R.bind (R.bind (R.ret []) fun ds => R.ret (.list ds)) fun y => R.bind (eqR x y) boolR) fun b => if b = true then up (R.bind (R.ret (.str "nothing")) fun d => R.ret (.rt d ())) else (R.bind (R.bind (R.ret (.str " + ")) fun x => R.bind (strR x) fun x => R.bind (R.ret s1) fun y => joinR x y) fun d => R.ret (.rt d ()))
def m_law_items (v_law_kinds v_law_words v_law_mixed : D) : R D := endR0 (o_law_items v_law_kinds v_law_words v_law_mixed)
def o_law_word (v_law_number : D) : R (Out Unit Empty Unit) := R.bind (R.bind (R.ret v_law_number) fun x => R.bind (R.bind (R.ret (.int 1)) fun x => negR x) fun y => R.bind (eqR x y) boolR) fun b => if b = true then up (R.bind (R.ret (.str "endless")) fun d => R.ret (.rt d ())) else (R.bind (R.bind (R.bind (R.ret v_law_number) fun x => R.bind (R.ret (.int 0)) fun y => R.bind (eqR x y) boolR) fun x => if x = true then (R.ret (.str "")) else (R.bind (R.ret v_law_number) fun x => strI x)) fun d => R.ret (.rt d ()))
def m_law_word (v_law_number : D) : R D := endR0 (o_law_word v_law_number)
def o_law_stock_text (v_law_kinds v_law_stock_here v_law_mixed : D) : R (Out Unit Empty Unit) := R.bind (R.bind (R.ret v_law_kinds) fun x => R.bind (R.bind (R.bind (R.bind (R.ret v_law_stock_here) fun x => itemsR x) fun ds => compR (fun _ => R.ret true) (fun v_law_entry => (R.bind (R.ret v_law_entry) fun x => m_law_word x)) ds []) fun ds => R.ret (.list ds)) fun y => R.bind (R.ret v_law_mixed) fun z => m_law_items x y z) fun d => R.ret (.rt d ())
def m_law_stock_text (v_law_kinds v_law_stock_here v_law_mixed : D) : R D := endR0 (o_law_stock_text v_law_kinds v_law_stock_here v_law_mixed)
def o_law_run (rec : D → D → D → R D) (v_law_moves v_law_depth v_law_times : D) : R (Out Unit Empty Unit) := R.bind (R.ret []) fun v_law_steps => R.bind (R.bind (R.bind (R.ret (.int 4)) fun x => drawR x) fun x => rng1R x) fun ds => seqR (S := List D) (forR (fun v_law_k (s1 : List D) => R.bind (R.bind (R.ret v_law_moves) fun x => R.bind (R.ret (.int 0)) fun y => R.bind (eqR x y) boolR) fun b => if b = true then up (R.bind (R.ret (.tuple [])) fun d => R.ret (.rt d ())) else (R.bind (R.ret (.tuple [])) fun v_law_inner => R.bind (R.bind (R.bind (R.ret v_law_depth) fun x => R.bind (R.ret (.int 0)) fun y => R.bind (gtR x y) boolR) fun x => if x = true then (R.bind (R.bind (R.ret (.int 3)) fun x => drawR x) fun x => R.bind (R.ret (.int 0)) fun y => R.bind (eqR x y) boolR) else R.ret false) fun b => seqR (S := D) (if b = true then (R.bind (R.bind (R.ret v_law_moves) fun x => R.bind (R.bind (R.ret v_law_depth) fun x => R.bind (R.ret (.int 1)) fun y => subR x y) fun y => R.bind (R.ret v_law_times) fun z => rec x y z) fun v_law_inner => R.ret (.nx v_law_inner)) else (R.ret (.nx v_law_inner))) fun s2 => R.bind (R.bind (R.ret s2) fun x => R.bind (R.ret (.tuple [])) fun y => R.bind (eqR x y) boolR) fun b => if b = true then (R.bind (R.bind (R.ret (.str "do")) fun x => R.bind (R.bind (R.ret v_law_moves) fun x => drawR x) fun y => R.ret (.tuple [x, y])) fun d => R.bind (appR s1 d) fun v_law_steps => R.ret (.nx v_law_steps)) else (R.bind (R.bind (R.ret (.str "rep")) fun x => R.bind (R.bind (R.ret (.int 1)) fun x => R.bind (R.bind (R.ret v_law_times) fun x => drawR x) fun y => addR x y) fun y => R.bind (R.ret s2) fun z => R.ret (.tuple [x, y, z])) fun d => R.bind (appR s1 d) fun v_law_steps => R.ret (.nx v_law_steps)))) ds v_law_steps) fun s1 => R.bind (R.bind (R.ret (.list s1)) fun x => tupleR x) fun d => R.ret (.rt d ())
def m_law_run : Nat → D → D → D → R D
  | 0 => fun _ _ _ => bad
  | n + 1 => fun v_law_moves v_law_depth v_law_times => endR0 (o_law_run (m_law_run n) v_law_moves v_law_depth v_law_times)
def o_print_items (v_kinds v_items : D) : R (Out Unit Empty Unit) := R.bind (R.bind (R.bind (R.bind (R.ret v_kinds) fun x => lenR x) fun x => rng1R x) fun ds => compR (fun v_k => (R.bind (R.bind (R.ret v_items) fun x => R.bind (R.ret v_k) fun y => ixR x y) fun x => R.bind (R.ret .none) fun y => R.bind (isNotR x y) boolR)) (fun v_k => (R.bind (R.bind (R.bind (R.ret v_items) fun x => R.bind (R.ret v_k) fun y => ixR x y) fun x => R.bind (R.ret (.str " ")) fun y => addR x y) fun x => R.bind (R.bind (R.ret v_kinds) fun x => R.bind (R.ret v_k) fun y => ixR x y) fun y => addR x y)) ds []) fun v_words => R.bind (R.bind (R.bind (R.bind (R.ret (.list v_words)) fun x => lenR x) fun x => R.bind (R.ret (.int 0)) fun y => R.bind (gtR x y) boolR) fun x => if x = true then (R.bind (R.ret (.str " + ")) fun x => R.bind (strR x) fun x => R.bind (R.ret (.list v_words)) fun y => joinR x y) else (R.ret (.str "nothing"))) fun d => R.ret (.rt d ())
def m_print_items (v_kinds v_items : D) : R D := endR0 (o_print_items v_kinds v_items)
def o_written (v_number : D) : R (Out Unit Empty Unit) := R.bind (R.bind (R.ret v_number) fun x => R.bind (R.bind (R.ret (.int 1)) fun x => negR x) fun y => R.bind (eqR x y) boolR) fun b => if b = true then up (R.bind (R.ret (.str "endless")) fun d => R.ret (.rt d ())) else (R.bind (R.bind (R.bind (R.ret v_number) fun x => R.bind (R.ret (.int 0)) fun y => R.bind (gtR x y) boolR) fun x => if x = true then (R.bind (R.ret v_number) fun x => strI x) else (R.ret .none)) fun d => R.ret (.rt d ()))
def m_written (v_number : D) : R D := endR0 (o_written v_number)
def o_print_range (v_least v_most : D) : R (Out Unit Empty Unit) := R.bind (R.bind (R.bind (R.ret v_most) fun x => R.bind (R.ret (.int 0)) fun y => R.bind (eqR x y) boolR) fun x => if x = true then R.ret true else (R.bind (R.ret v_least) fun x => R.bind (R.ret v_most) fun y => R.bind (eqR x y) boolR)) fun b => if b = true then up (R.bind (R.bind (R.ret v_most) fun x => m_written x) fun d => R.ret (.rt d ())) else (R.bind (R.bind (R.bind (R.bind (R.ret v_least) fun x => strI x) fun x => R.bind (R.ret (.str "..")) fun y => addR x y) fun x => R.bind (R.bind (R.ret v_most) fun x => strI x) fun y => addR x y) fun d => R.ret (.rt d ()))
def m_print_range (v_least v_most : D) : R D := endR0 (o_print_range v_least v_most)
def o_print_stock (v_book v_stock : D) : R (Out Unit Empty Unit) := R.bind (R.bind (R.bind (R.ret v_book) fun x => R.bind (R.ret (.int 0)) fun y => ixR x y) fun x => R.bind (R.bind (R.bind (R.bind (R.ret v_stock) fun x => itemsR x) fun ds => compR (fun _ => R.ret true) (fun v_number => (R.bind (R.ret v_number) fun x => m_written x)) ds []) fun ds => R.ret (.list ds)) fun y => m_print_items x y) fun d => R.ret (.rt d ())
def m_print_stock (v_book v_stock : D) : R D := endR0 (o_print_stock v_book v_stock)
def o_print_move (v_book v_move : D) : R (Out Unit Empty Unit) := R.bind (R.ret v_move) fun d => unp4 d fun v_name v_take v_least v_most => R.bind (R.bind (R.bind (R.ret v_book) fun x => R.bind (R.ret (.int 0)) fun y => ixR x y) fun x => R.bind (R.bind (R.bind (R.bind (R.bind (R.ret v_most) fun x => lenR x) fun x => rng1R x) fun ds => compR (fun _ => R.ret true) (fun v_k => (R.bind (R.bind (R.ret v_least) fun x => R.bind (R.ret v_k) fun y => ixR x y) fun x => R.bind (R.bind (R.ret v_most) fun x => R.bind (R.ret v_k) fun y => ixR x y) fun y => m_print_range x y)) ds []) fun ds => R.ret (.list ds)) fun y => m_print_items x y) fun v_give => R.bind (R.bind (R.bind (R.bind (R.bind (R.ret v_name) fun x => R.bind (R.ret (.str ": ")) fun y => addR x y) fun x => R.bind (R.bind (R.ret v_book) fun x => R.bind (R.ret v_take) fun y => m_print_stock x y) fun y => addR x y) fun x => R.bind (R.ret (.str " -> ")) fun y => addR x y) fun x => R.bind (R.ret v_give) fun y => addR x y) fun d => R.ret (.rt d ())
def m_print_move (v_book v_move : D) : R D := endR0 (o_print_move v_book v_move)
def o_print_book (v_book : D) : R (Out Unit Empty Unit) := R.bind (R.bind (R.ret (.str "\n")) fun x => R.bind (strR x) fun x => R.bind (R.bind (R.bind (R.bind (R.bind (R.ret (.str " ")) fun x => R.bind (strR x) fun x => R.bind (R.bind (R.bind (R.ret (.str "kinds")) fun x => R.ret (.tuple [x])) fun x => R.bind (R.bind (R.ret v_book) fun x => R.bind (R.ret (.int 0)) fun y => ixR x y) fun y => addR x y) fun y => joinR x y) fun x => R.ret [x]) fun ds => R.ret (.list ds)) fun x => R.bind (R.bind (R.bind (R.bind (R.bind (R.ret v_book) fun x => R.bind (R.ret (.int 1)) fun y => ixR x y) fun x => itemsR x) fun ds => compR (fun _ => R.ret true) (fun v_move => (R.bind (R.ret v_book) fun x => R.bind (R.ret v_move) fun y => m_print_move x y)) ds []) fun ds => R.ret (.list ds)) fun y => addR x y) fun y => joinR x y) fun d => R.ret (.rt d ())
def m_print_book (v_book : D) : R D := endR0 (o_print_book v_book)
def o_law_range (v_law_low v_law_high : D) : R (Out Unit Empty Unit) := R.bind (R.bind (R.ret v_law_high) fun x => R.bind (R.ret (.int 0)) fun y => R.bind (eqR x y) boolR) fun b => if b = true then up (R.bind (R.ret (.str "")) fun d => R.ret (.rt d ())) else (R.bind (R.bind (R.bind (R.ret v_law_low) fun x => R.bind (R.ret v_law_high) fun y => R.bind (eqR x y) boolR) fun x => if x = true then (R.bind (R.ret v_law_high) fun x => strI x) else (R.bind (R.bind (R.bind (R.ret v_law_low) fun x => strI x) fun x => R.bind (R.ret (.str "..")) fun y => addR x y) fun x => R.bind (R.bind (R.ret v_law_high) fun x => strI x) fun y => addR x y)) fun d => R.ret (.rt d ()))
def m_law_range (v_law_low v_law_high : D) : R D := endR0 (o_law_range v_law_low v_law_high)
def o_law_book_text (v_law_book_here v_law_mixed : D) : R (Out Unit Empty Unit) := R.bind (R.bind (R.bind (R.ret (.str "kinds ")) fun x => R.bind (R.bind (R.ret (.str " ")) fun x => R.bind (strR x) fun x => R.bind (R.bind (R.ret v_law_book_here) fun x => R.bind (R.ret (.int 0)) fun y => ixR x y) fun y => joinR x y) fun y => addR x y) fun x => R.ret [x]) fun v_law_lines => R.bind (R.bind (R.bind (R.ret v_law_book_here) fun x => R.bind (R.ret (.int 1)) fun y => ixR x y) fun x => itemsR x) fun ds => seqR (S := List D) (forR (fun d (s1 : List D) => unp4 d fun v_law_name v_law_take_here v_law_low v_law_high => R.bind (R.bind (R.bind (R.ret v_law_book_here) fun x => R.bind (R.ret (.int 0)) fun y => ixR x y) fun x => R.bind (R.bind (R.bind (R.bind (R.bind (R.ret v_law_high) fun x => lenR x) fun x => rng1R x) fun ds => compR (fun _ => R.ret true) (fun v_law_k => (R.bind (R.bind (R.ret v_law_low) fun x => R.bind (R.ret v_law_k) fun y => ixR x y) fun x => R.bind (R.bind (R.ret v_law_high) fun x => R.bind (R.ret v_law_k) fun y => ixR x y) fun y => m_law_range x y)) ds []) fun ds => R.ret (.list ds)) fun y => R.bind (R.ret v_law_mixed) fun z => m_law_items x y z) fun v_law_give => R.bind (R.bind (R.bind (R.bind (R.bind (R.ret v_law_name) fun x => R.bind (R.ret (.str ": ")) fun y => addR x y) fun x => R.bind (R.bind (R.bind (R.ret v_law_book_here) fun x => R.bind (R.ret (.int 0)) fun y => ixR x y) fun x => R.bind (R.ret v_law_take_here) fun y => R.bind (R.ret v_law_mixed) fun z => m_law_stock_text x y z) fun y => addR x y) fun x => R.bind (R.ret (.str " -> ")) fun y => addR x y) fun x => R.bind (R.ret v_law_give) fun y => addR x y) fun d => R.bind (appR s1 d) fun v_law_lines => R.ret (.nx v_law_lines)) ds v_law_lines) fun s1 => R.bind (R.bind (R.ret (.str "\n")) fun x => R.bind (strR x) fun x => R.bind (R.ret (.list s1)) fun y => joinR x y) fun d => R.ret (.rt d ())
def m_law_book_text (v_law_book_here v_law_mixed : D) : R D := endR0 (o_law_book_text v_law_book_here v_law_mixed)
def o_read_items (v_kinds : D) (v_text : D) : R (Out (Unit) Empty (Unit)) := R.bind (R.bind (R.ret v_text) fun x => R.bind (R.ret (.str "nothing")) fun y => R.bind (eqR x y) boolR) fun b => if b = true then up (R.ret (.rt (encC (.k [])) ())) else (R.bind (R.bind (R.bind (R.bind (R.ret v_text) fun x => R.bind (strR x) fun x => R.bind (R.ret (.str " + ")) fun y => splitR x y) fun ds => R.ret (.list ds)) fun x => itemsR x) fun ds => seqR (S := List (L2.Key × D)) (forR (fun v_item (s1 : List (L2.Key × D)) => R.bind (R.bind (R.bind (R.ret v_item) fun x => R.bind (strR x) fun x => R.bind (R.ret (.str " ")) fun y => splitR x y) fun ds => R.ret (.list ds)) fun v_words => R.bind (R.bind (R.bind (R.bind (R.ret v_words) fun x => lenR x) fun x => R.bind (R.ret (.int 2)) fun y => R.bind (neR x y) boolR) fun x => if x = true then R.ret true else (R.bind (R.bind (R.bind (R.ret v_words) fun x => R.bind (R.ret (.int 1)) fun y => ixR x y) fun x => R.bind (R.ret v_kinds) fun y => R.bind (ninR x y) boolR) fun x => if x = true then R.ret true else (R.bind (R.bind (R.ret v_words) fun x => R.bind (R.ret (.int 1)) fun y => ixR x y) fun y => R.bind (dinR (.k s1) y) boolR))) fun b => if b = true then up (R.bind (R.ret .none) fun d => R.ret (.rt d ())) else (R.bind (R.bind (R.ret v_words) fun x => R.bind (R.ret (.int 0)) fun y => ixR x y) fun x => R.bind (R.bind (R.ret v_words) fun x => R.bind (R.ret (.int 1)) fun y => ixR x y) fun y => R.bind (dputK s1 y x) fun v_found => R.ret (.nx v_found))) ds []) fun s1 => R.ret (.rt (encC (.k s1)) ()))
def m_read_items (v_kinds : D) (v_text : D) : R (D) := endR0 (o_read_items v_kinds v_text)
def x_read_items : List Ar → R (D)
  | [.d v_kinds, .d v_text] => m_read_items v_kinds v_text
  | _ => bad
def o_number_of (v_word v_most : D) : R (Out Unit Empty Unit) := R.bind (R.bind (R.bind (R.ret v_word) fun x => R.bind (R.ret (.str "")) fun y => R.bind (eqR x y) boolR) fun x => if x = true then R.ret true else (R.bind (R.bind (R.bind (R.ret v_word) fun x => lenR x) fun x => R.bind (R.ret (.int 40)) fun y => R.bind (gtR x y) boolR) fun x => if x = true then R.ret true else (R.bind (R.bind (R.bind (R.bind (R.bind (R.bind (R.ret v_word) fun x => itemsR x) fun ds => compR (fun _ => R.ret true) (fun v_char => (R.bind (R.ret v_char) fun x => R.bind (R.ret (.str "0123456789")) fun y => inR x y)) ds []) fun ds => R.ret (.list ds)) fun x => allR x) fun x => boolR x) fun b => R.ret (!b)))) fun b => if b = true then up (R.bind (R.ret .none) fun d => R.ret (.rt d ())) else (R.bind (R.bind (R.bind (R.bind (R.ret v_word) fun x => R.bind (R.ret (.int 0)) fun y => ixR x y) fun x => R.bind (R.ret (.str "0")) fun y => R.bind (eqR x y) boolR) fun x => if x = true then (R.bind (R.bind (R.ret v_word) fun x => lenR x) fun x => R.bind (R.ret (.int 1)) fun y => R.bind (gtR x y) boolR) else R.ret false) fun b => if b = true then up (R.bind (R.ret .none) fun d => R.ret (.rt d ())) else (R.bind (R.bind (R.ret v_word) fun x => intT x) fun v_number => R.bind (R.bind (R.bind (R.ret v_number) fun x => R.bind (R.ret v_most) fun y => R.bind (leR x y) boolR) fun x => if x = true then (R.ret v_number) else (R.ret .none)) fun d => R.ret (.rt d ())))
def m_number_of (v_word v_most : D) : R D := endR0 (o_number_of v_word v_most)
def o_entries_of (v_kinds v_text v_most v_endless : D) : R (Out Unit Empty Unit) := R.bind (R.bind (R.ret v_kinds) fun x1 => R.bind (R.ret v_text) fun x2 => m_read_items x1 x2) fun d => asKN d (R.bind (R.bind (R.ret .none) fun x => R.bind (R.ret .none) fun y => R.bind (isR x y) boolR) fun b => if b = true then up (R.bind (R.ret .none) fun d => R.ret (.rt d ())) else (R.bind (R.ret []) fun v_entries => R.bind (R.bind (R.ret v_kinds) fun x => itemsR x) fun ds => seqR (S := List D) (forR (fun v_kind (s5 : List D) => bad) ds v_entries) fun s5 => R.bind (R.bind (R.ret (.list s5)) fun x => tupleR x) fun d => R.ret (.rt d ()))) fun v_items => R.bind (R.ret false) fun b => if b = true then up (R.bind (R.ret .none) fun d => R.ret (.rt d ())) else (R.bind (R.ret []) fun v_entries => R.bind (R.bind (R.ret v_kinds) fun x => itemsR x) fun ds => seqR (S := List D) (forR (fun v_kind (s3 : List D) => R.bind (R.bind (R.ret v_kind) fun y => dget1R (.k v_items) y) fun v_word => R.bind (R.ret (.int 0)) fun v_number => R.bind (R.bind (R.bind (R.ret v_word) fun x => R.bind (R.ret (.str "endless")) fun y => R.bind (eqR x y) boolR) fun x => if x = true then (R.bind (R.ret v_endless) fun x => boolR x) else R.ret false) fun b => seqR (S := D) (if b = true then (R.bind (R.bind (R.ret (.int 1)) fun x => negR x) fun v_number => R.ret (.nx v_number)) else (R.bind (R.bind (R.ret v_word) fun x => R.bind (R.ret .none) fun y => R.bind (isNotR x y) boolR) fun b => if b = true then (R.bind (R.bind (R.ret v_word) fun x => R.bind (R.ret v_most) fun y => m_number_of x y) fun v_number => R.bind (R.bind (R.bind (R.ret v_number) fun x => R.bind (R.ret .none) fun y => R.bind (isR x y) boolR) fun x => if x = true then R.ret true else (R.bind (R.ret v_number) fun x => R.bind (R.ret (.int 0)) fun y => R.bind (eqR x y) boolR)) fun b => if b = true then (R.bind (R.ret .none) fun d => R.ret (.rt d ())) else (R.ret (.nx v_number))) else (R.ret (.nx v_number)))) fun s4 => R.bind (R.ret s4) fun d => R.bind (appR s3 d) fun v_entries => R.ret (.nx v_entries)) ds v_entries) fun s3 => R.bind (R.bind (R.ret (.list s3)) fun x => tupleR x) fun d => R.ret (.rt d ()))
def m_entries_of (v_kinds v_text v_most v_endless : D) : R D := endR0 (o_entries_of v_kinds v_text v_most v_endless)
def o_read_stock (v_book v_text : D) : R (Out Unit Empty Unit) := R.bind (R.bind (R.bind (R.ret v_book) fun x => R.bind (R.ret (.int 0)) fun y => ixR x y) fun x => R.bind (R.ret v_text) fun y => R.bind (R.ret (.int 1000000000000000000000000000000)) fun z => R.bind (R.ret (.bool false)) fun w => m_entries_of x y z w) fun v_found => R.bind (R.bind (R.ret v_found) fun x => R.bind (R.ret .none) fun y => R.bind (isR x y) boolR) fun b => if b = true then up (bad) else (R.bind (R.ret v_found) fun d => R.ret (.rt d ()))
def m_read_stock (v_book v_text : D) : R D := endR0 (o_read_stock v_book v_text)
def o_is_name (v_value : D) : R (Out Unit Empty Unit) := R.bind (R.bind (R.bind (R.bind (R.bind (R.ret v_value) fun x => isiR "str" x) fun x => boolR x) fun b => R.ret (!b)) fun x => if x = true then R.ret true else (R.bind (R.bind (R.bind (R.ret (.int 1)) fun x => R.bind (R.bind (R.ret v_value) fun x => lenR x) fun y => R.bind (leR x y) fun z => R.bind (boolR z) fun k => if k = true then R.bind (R.ret (.int 12)) fun w => R.bind (leR y w) boolR else R.ret false) fun b => R.ret (!b)) fun x => if x = true then R.ret true else (R.bind (R.ret v_value) fun x => R.bind (inR x (.tuple [(.str "kinds"), (.str "nothing"), (.str "endless"), (.str "x")])) boolR))) fun b => if b = true then up (R.bind (R.ret (.bool false)) fun d => R.ret (.rt d ())) else (R.bind (R.bind (R.bind (R.bind (R.ret v_value) fun x => R.bind (R.ret (.int 0)) fun y => ixR x y) fun x => R.bind (R.ret (.str "abcdefghijklmnopqrstuvwxyz")) fun y => inR x y) fun x => R.bind (boolR x) fun x => if x = true then (R.bind (R.bind (R.bind (R.bind (R.ret v_value) fun x => itemsR x) fun ds => compR (fun _ => R.ret true) (fun v_char => (R.bind (R.bind (R.ret v_char) fun x => R.bind (R.ret (.str "abcdefghijklmnopqrstuvwxyz")) fun y => inR x y) fun x => R.bind (boolR x) fun x => if x = true then R.ret (.bool true) else (R.bind (R.ret v_char) fun x => R.bind (R.ret (.str "0123456789")) fun y => inR x y))) ds []) fun ds => R.ret (.list ds)) fun x => allR x) else R.ret (.bool false)) fun d => R.ret (.rt d ()))
def m_is_name (v_value : D) : R D := endR0 (o_is_name v_value)
def o_read_kinds (v_line : D) : R (Out Unit Empty Unit) := R.bind (R.bind (R.bind (R.ret v_line) fun x => R.bind (strR x) fun x => R.bind (R.ret (.str " ")) fun y => splitR x y) fun ds => R.ret (.list ds)) fun v_words => R.bind (R.bind (R.bind (R.ret v_words) fun x => R.bind (R.bind (R.ret (.int 1)) fun x => partR x) fun l => R.bind (R.ret none) fun h => sliceR x l h) fun x => tupleR x) fun v_kinds => R.bind (R.bind (R.bind (R.bind (R.ret v_words) fun x => R.bind (R.ret (.int 0)) fun y => ixR x y) fun x => R.bind (R.ret (.str "kinds")) fun y => R.bind (neR x y) boolR) fun x => if x = true then R.ret true else (R.bind (R.bind (R.bind (R.ret (.int 1)) fun x => R.bind (R.bind (R.ret v_kinds) fun x => lenR x) fun y => R.bind (leR x y) fun z => R.bind (boolR z) fun k => if k = true then R.bind (R.ret (.int 6)) fun w => R.bind (leR y w) boolR else R.ret false) fun b => R.ret (!b)) fun x => if x = true then R.ret true else (R.bind (R.bind (R.bind (R.bind (R.bind (R.bind (R.ret v_kinds) fun x => itemsR x) fun ds => compR (fun _ => R.ret true) (fun v_kind => (R.bind (R.ret v_kind) fun x => m_is_name x)) ds []) fun ds => R.ret (.list ds)) fun x => allR x) fun x => boolR x) fun b => R.ret (!b)))) fun b => if b = true then up (R.bind (R.ret .none) fun d => R.ret (.rt d ())) else (R.bind (R.bind (R.bind (R.bind (R.ret v_kinds) fun x => lenSetR x) fun x => R.bind (R.bind (R.ret v_kinds) fun x => lenR x) fun y => R.bind (eqR x y) boolR) fun x => if x = true then (R.ret v_kinds) else (R.ret .none)) fun d => R.ret (.rt d ()))
def m_read_kinds (v_line : D) : R D := endR0 (o_read_kinds v_line)
def o_range_of (v_word : D) : R (Out Unit Empty Unit) := R.bind (R.bind (R.bind (R.ret v_word) fun x => R.bind (strR x) fun x => R.bind (R.ret (.str "..")) fun y => splitR x y) fun ds => R.ret (.list ds)) fun v_words => R.bind (R.bind (R.bind (R.ret v_words) fun x => itemsR x) fun ds => compR (fun _ => R.ret true) (fun v_part => (R.bind (R.ret v_part) fun x => R.bind (R.ret (.int 1000)) fun y => m_number_of x y)) ds []) fun v_numbers => R.bind (R.bind (R.bind (R.bind (R.ret v_words) fun x => lenR x) fun x => R.bind (R.ret (.int 2)) fun y => R.bind (gtR x y) boolR) fun x => if x = true then R.ret true else (R.bind (R.bind (R.ret .none) fun x => R.bind (R.ret (.list v_numbers)) fun y => R.bind (inR x y) boolR) fun x => if x = true then R.ret true else (R.bind (R.bind (R.ret (.list v_numbers)) fun x => R.bind (R.bind (R.ret (.int 1)) fun x => negR x) fun y => ixR x y) fun x => R.bind (R.ret (.int 0)) fun y => R.bind (eqR x y) boolR))) fun b => if b = true then up (R.bind (R.ret .none) fun d => R.ret (.rt d ())) else (R.bind (R.bind (R.bind (R.bind (R.ret v_words) fun x => lenR x) fun x => R.bind (R.ret (.int 2)) fun y => R.bind (eqR x y) boolR) fun x => if x = true then (R.bind (R.bind (R.ret (.list v_numbers)) fun x => R.bind (R.ret (.int 0)) fun y => ixR x y) fun x => R.bind (R.bind (R.ret (.list v_numbers)) fun x => R.bind (R.ret (.int 1)) fun y => ixR x y) fun y => R.bind (geR x y) boolR) else R.ret false) fun b => if b = true then up (R.bind (R.ret .none) fun d => R.ret (.rt d ())) else (R.bind (R.bind (R.bind (R.ret (.list v_numbers)) fun x => R.bind (R.ret (.int 0)) fun y => ixR x y) fun x => R.bind (R.bind (R.ret (.list v_numbers)) fun x => R.bind (R.bind (R.ret (.int 1)) fun x => negR x) fun y => ixR x y) fun y => R.ret (.tuple [x, y])) fun d => R.ret (.rt d ())))
def m_range_of (v_word : D) : R D := endR0 (o_range_of v_word)
def o_ranges_of (v_kinds v_text : D) : R (Out Unit Empty Unit) := R.bind (R.bind (R.ret v_kinds) fun x1 => R.bind (R.ret v_text) fun x2 => m_read_items x1 x2) fun d => asKN d (R.bind (R.bind (R.ret .none) fun x => R.bind (R.ret .none) fun y => R.bind (isR x y) boolR) fun b => if b = true then up (R.bind (R.ret .none) fun d => R.ret (.rt d ())) else (R.bind (R.ret []) fun v_least => R.bind (R.ret []) fun v_most => R.bind (R.bind (R.ret v_kinds) fun x => itemsR x) fun ds => seqR (S := (List D) × (List D)) (forR (fun v_kind (s5 : (List D) × (List D)) => R.bind (R.bind (R.ret (.int 0)) fun x => R.bind (R.ret (.int 0)) fun y => R.ret (.tuple [x, y])) fun v_pair => R.bind (R.bind (R.ret v_kind) fun x => R.bind (R.ret .none) fun y => R.bind (inR x y) boolR) fun b => seqR (S := D) (if b = true then (R.bind (R.bind (R.bind (R.ret .none) fun x => R.bind (R.ret v_kind) fun y => ixR x y) fun x => m_range_of x) fun v_pair => R.bind (R.bind (R.ret v_pair) fun x => R.bind (R.ret .none) fun y => R.bind (isR x y) boolR) fun b => if b = true then (R.bind (R.ret .none) fun d => R.ret (.rt d ())) else (R.ret (.nx v_pair))) else (R.ret (.nx v_pair))) fun s6 => R.bind (R.bind (R.ret s6) fun x => R.bind (R.ret (.int 0)) fun y => ixR x y) fun d => R.bind (appR s5.1 d) fun v_least => R.bind (R.bind (R.ret s6) fun x => R.bind (R.ret (.int 1)) fun y => ixR x y) fun d => R.bind (appR s5.2 d) fun v_most => R.ret (.nx (v_least, v_most))) ds (v_least, v_most)) fun s5 => R.bind (R.bind (R.bind (R.ret (.list s5.1)) fun x => tupleR x) fun x => R.bind (R.bind (R.ret (.list s5.2)) fun x => tupleR x) fun y => R.ret (.tuple [x, y])) fun d => R.ret (.rt d ()))) fun v_items => R.bind (R.ret false) fun b => if b = true then up (R.bind (R.ret .none) fun d => R.ret (.rt d ())) else (R.bind (R.ret []) fun v_least => R.bind (R.ret []) fun v_most => R.bind (R.bind (R.ret v_kinds) fun x => itemsR x) fun ds => seqR (S := (List D) × (List D)) (forR (fun v_kind (s3 : (List D) × (List D)) => R.bind (R.bind (R.ret (.int 0)) fun x => R.bind (R.ret (.int 0)) fun y => R.ret (.tuple [x, y])) fun v_pair => R.bind (R.bind (R.ret v_kind) fun y => R.bind (dinR (.k v_items) y) boolR) fun b => seqR (S := D) (if b = true then (R.bind (R.bind (R.bind (R.ret v_kind) fun y => dgetR (.k v_items) y) fun x => m_range_of x) fun v_pair => R.bind (R.bind (R.ret v_pair) fun x => R.bind (R.ret .none) fun y => R.bind (isR x y) boolR) fun b => if b = true then (R.bind (R.ret .none) fun d => R.ret (.rt d ())) else (R.ret (.nx v_pair))) else (R.ret (.nx v_pair))) fun s4 => R.bind (R.bind (R.ret s4) fun x => R.bind (R.ret (.int 0)) fun y => ixR x y) fun d => R.bind (appR s3.1 d) fun v_least => R.bind (R.bind (R.ret s4) fun x => R.bind (R.ret (.int 1)) fun y => ixR x y) fun d => R.bind (appR s3.2 d) fun v_most => R.ret (.nx (v_least, v_most))) ds (v_least, v_most)) fun s3 => R.bind (R.bind (R.bind (R.ret (.list s3.1)) fun x => tupleR x) fun x => R.bind (R.bind (R.ret (.list s3.2)) fun x => tupleR x) fun y => R.ret (.tuple [x, y])) fun d => R.ret (.rt d ()))
def m_ranges_of (v_kinds v_text : D) : R D := endR0 (o_ranges_of v_kinds v_text)
def o_read_move (v_kinds v_line : D) : R (Out Unit Empty Unit) := R.bind (R.bind (R.bind (R.ret v_line) fun x => R.bind (strR x) fun x => R.bind (R.ret (.str ": ")) fun y => splitR x y) fun ds => R.ret (.list ds)) fun v_parts => R.bind (R.bind (R.bind (R.bind (R.ret v_parts) fun x => lenR x) fun x => R.bind (R.ret (.int 2)) fun y => R.bind (neR x y) boolR) fun x => if x = true then R.ret true else (R.bind (R.bind (R.bind (R.bind (R.ret v_parts) fun x => R.bind (R.ret (.int 0)) fun y => ixR x y) fun x => m_is_name x) fun x => boolR x) fun b => R.ret (!b))) fun b => if b = true then up (R.bind (R.ret .none) fun d => R.ret (.rt d ())) else (R.bind (R.bind (R.bind (R.bind (R.ret v_parts) fun x => R.bind (R.ret (.int 1)) fun y => ixR x y) fun x => R.bind (strR x) fun x => R.bind (R.ret (.str " -> ")) fun y => splitR x y) fun ds => R.ret (.list ds)) fun v_sides => R.bind (R.bind (R.bind (R.ret v_sides) fun x => lenR x) fun x => R.bind (R.ret (.int 2)) fun y => R.bind (neR x y) boolR) fun b => if b = true then up (R.bind (R.ret .none) fun d => R.ret (.rt d ())) else (R.bind (R.bind (R.ret v_kinds) fun x => R.bind (R.bind (R.ret v_sides) fun x => R.bind (R.ret (.int 0)) fun y => ixR x y) fun y => R.bind (R.ret (.int 1000)) fun z => R.bind (R.ret (.bool false)) fun w => m_entries_of x y z w) fun v_take => R.bind (R.bind (R.ret v_kinds) fun x => R.bind (R.bind (R.ret v_sides) fun x => R.bind (R.ret (.int 1)) fun y => ixR x y) fun y => m_ranges_of x y) fun v_pair => R.bind (R.bind (R.bind (R.ret v_take) fun x => R.bind (R.ret .none) fun y => R.bind (isR x y) boolR) fun x => if x = true then R.ret true else (R.bind (R.ret v_pair) fun x => R.bind (R.ret .none) fun y => R.bind (isR x y) boolR)) fun b => if b = true then up (R.bind (R.ret .none) fun d => R.ret (.rt d ())) else (R.bind (R.bind (R.bind (R.bind (R.ret v_parts) fun x => R.bind (R.ret (.int 0)) fun y => ixR x y) fun x => R.bind (R.ret v_take) fun y => R.ret (.tuple [x, y])) fun x => R.bind (R.ret v_pair) fun y => addR x y) fun d => R.ret (.rt d ()))))
def m_read_move (v_kinds v_line : D) : R D := endR0 (o_read_move v_kinds v_line)
def o_read_book (v_text : D) : R (Out Unit Empty Unit) := R.bind (R.bind (R.bind (R.ret v_text) fun x => R.bind (strR x) fun x => R.bind (R.ret (.str "\n")) fun y => splitR x y) fun ds => R.ret (.list ds)) fun v_lines => R.bind (R.bind (R.bind (R.ret v_lines) fun x => R.bind (R.ret (.int 0)) fun y => ixR x y) fun x => m_read_kinds x) fun v_kinds => R.bind (R.bind (R.ret v_kinds) fun x => R.bind (R.ret .none) fun y => R.bind (isR x y) boolR) fun b => if b = true then up (bad) else (R.bind (R.ret []) fun v_moves => R.bind (R.bind (R.ret v_kinds) fun x => listL x) fun v_names => R.bind (R.bind (R.ret (.int 1)) fun x => R.bind (R.bind (R.ret v_lines) fun x => lenR x) fun y => rng2R x y) fun ds => seqR (S := (List D) × (List D)) (forR (fun v_k (s1 : (List D) × (List D)) => R.bind (R.bind (R.ret v_kinds) fun x => R.bind (R.bind (R.ret v_lines) fun x => R.bind (R.ret v_k) fun y => ixR x y) fun y => m_read_move x y) fun v_move => R.bind (R.bind (R.bind (R.ret v_move) fun x => R.bind (R.ret .none) fun y => R.bind (isR x y) boolR) fun x => if x = true then R.ret true else (R.bind (R.bind (R.bind (R.ret v_move) fun x => R.bind (R.ret (.int 0)) fun y => ixR x y) fun x => R.bind (R.ret (.list s1.2)) fun y => R.bind (inR x y) boolR) fun x => if x = true then R.ret true else (R.bind (R.bind (R.ret (.list s1.1)) fun x => lenR x) fun x => R.bind (R.ret (.int 8)) fun y => R.bind (eqR x y) boolR))) fun b => if b = true then up (bad) else (R.bind (R.ret v_move) fun d => R.bind (appR s1.1 d) fun v_moves => R.bind (R.bind (R.ret v_move) fun x => R.bind (R.ret (.int 0)) fun y => ixR x y) fun d => R.bind (appR s1.2 d) fun v_names => R.ret (.nx (v_moves, v_names)))) ds (v_moves, v_names)) fun s1 => R.bind (R.bind (R.ret v_kinds) fun x => R.bind (R.bind (R.ret (.list s1.1)) fun x => tupleR x) fun y => R.ret (.tuple [x, y])) fun d => R.ret (.rt d ()))
def m_read_book (v_text : D) : R D := endR0 (o_read_book v_text)
def o_read_extended (v_book v_text : D) : R (Out Unit Empty Unit) := R.bind (R.bind (R.bind (R.ret v_book) fun x => R.bind (R.ret (.int 0)) fun y => ixR x y) fun x => R.bind (R.ret v_text) fun y => R.bind (R.ret (.int 1000000000000000000000000000000)) fun z => R.bind (R.ret (.bool true)) fun w => m_entries_of x y z w) fun v_found => R.bind (R.bind (R.ret v_found) fun x => R.bind (R.ret .none) fun y => R.bind (isR x y) boolR) fun b => if b = true then up (bad) else (R.bind (R.ret v_found) fun d => R.ret (.rt d ()))
def m_read_extended (v_book v_text : D) : R D := endR0 (o_read_extended v_book v_text)
def o_print_run (rec : D → D → R D) (v_book v_run : D) : R (Out Unit Empty Unit) := R.bind (R.bind (R.ret v_run) fun x => R.bind (R.ret (.tuple [])) fun y => R.bind (eqR x y) boolR) fun b => if b = true then up (R.bind (R.ret (.str "nothing")) fun d => R.ret (.rt d ())) else (R.bind (R.ret []) fun v_words => R.bind (R.bind (R.ret v_run) fun x => itemsR x) fun ds => seqR (S := List D) (forR (fun v_step (s1 : List D) => R.bind (R.bind (R.bind (R.ret v_step) fun x => R.bind (R.ret (.int 0)) fun y => ixR x y) fun x => R.bind (R.ret (.str "do")) fun y => R.bind (eqR x y) boolR) fun b => if b = true then (R.bind (R.bind (R.bind (R.bind (R.ret v_book) fun x => R.bind (R.ret (.int 1)) fun y => ixR x y) fun x => R.bind (R.bind (R.ret v_step) fun x => R.bind (R.ret (.int 1)) fun y => ixR x y) fun y => ixR x y) fun x => R.bind (R.ret (.int 0)) fun y => ixR x y) fun d => R.bind (appR s1 d) fun v_words => R.ret (.nx v_words)) else (R.bind (R.bind (R.bind (R.bind (R.bind (R.bind (R.ret v_step) fun x => R.bind (R.ret (.int 1)) fun y => ixR x y) fun x => strI x) fun x => R.bind (R.ret (.str " x (")) fun y => addR x y) fun x => R.bind (R.bind (R.ret v_book) fun x => R.bind (R.bind (R.ret v_step) fun x => R.bind (R.ret (.int 2)) fun y => ixR x y) fun y => rec x y) fun y => addR x y) fun x => R.bind (R.ret (.str ")")) fun y => addR x y) fun d => R.bind (appR s1 d) fun v_words => R.ret (.nx v_words))) ds v_words) fun s1 => R.bind (R.bind (R.ret (.str "; ")) fun x => R.bind (strR x) fun x => R.bind (R.ret (.list s1)) fun y => joinR x y) fun d => R.ret (.rt d ()))
def m_print_run : Nat → D → D → R D
  | 0 => fun _ _ => bad
  | n + 1 => fun v_book v_run => endR0 (o_print_run (m_print_run n) v_book v_run)
def o_law_run_text (rec : D → D → R D) (v_law_book_here v_law_run_here : D) : R (Out Unit Empty Unit) := R.bind (R.ret []) fun v_law_words => R.bind (R.bind (R.ret v_law_run_here) fun x => itemsR x) fun ds => seqR (S := List D) (forR (fun v_law_step (s1 : List D) => R.bind (R.bind (R.bind (R.ret v_law_step) fun x => R.bind (R.ret (.int 0)) fun y => ixR x y) fun x => R.bind (R.ret (.str "do")) fun y => R.bind (eqR x y) boolR) fun b => if b = true then (R.bind (R.bind (R.bind (R.bind (R.ret v_law_book_here) fun x => R.bind (R.ret (.int 1)) fun y => ixR x y) fun x => R.bind (R.bind (R.ret v_law_step) fun x => R.bind (R.ret (.int 1)) fun y => ixR x y) fun y => ixR x y) fun x => R.bind (R.ret (.int 0)) fun y => ixR x y) fun d => R.bind (appR s1 d) fun v_law_words => R.ret (.nx v_law_words)) else (R.bind (R.bind (R.bind (R.bind (R.bind (R.bind (R.ret v_law_step) fun x => R.bind (R.ret (.int 1)) fun y => ixR x y) fun x => strI x) fun x => R.bind (R.ret (.str " x (")) fun y => addR x y) fun x => R.bind (R.bind (R.ret v_law_book_here) fun x => R.bind (R.bind (R.ret v_law_step) fun x => R.bind (R.ret (.int 2)) fun y => ixR x y) fun y => rec x y) fun y => addR x y) fun x => R.bind (R.ret (.str ")")) fun y => addR x y) fun d => R.bind (appR s1 d) fun v_law_words => R.ret (.nx v_law_words))) ds v_law_words) fun s1 => R.bind (R.bind (R.bind (R.ret (.list s1)) fun x => R.bind (R.bind (R.ret []) fun ds => R.ret (.list ds)) fun y => R.bind (eqR x y) boolR) fun x => if x = true then (R.ret (.str "nothing")) else (R.bind (R.ret (.str "; ")) fun x => R.bind (strR x) fun x => R.bind (R.ret (.list s1)) fun y => joinR x y)) fun d => R.ret (.rt d ())
def m_law_run_text : Nat → D → D → R D
  | 0 => fun _ _ => bad
  | n + 1 => fun v_law_book_here v_law_run_here => endR0 (o_law_run_text (m_law_run_text n) v_law_book_here v_law_run_here)
def o_split_steps (v_text : D) : R (Out Unit Empty Unit) := R.bind (R.ret []) fun v_words => R.bind (R.ret (.int 0)) fun v_level => R.bind (R.ret (.int 0)) fun v_begin => R.bind (R.bind (R.bind (R.ret v_text) fun x => lenR x) fun x => rng1R x) fun ds => seqR (S := (List D) × D × D) (forR (fun v_k (s1 : (List D) × D × D) => R.bind (R.bind (R.bind (R.ret v_text) fun x => R.bind (R.ret v_k) fun y => ixR x y) fun x => R.bind (R.ret (.str "(")) fun y => R.bind (eqR x y) boolR) fun b => if b = true then (R.bind (R.ret (.int 1)) fun y => R.bind (iaddR s1.2.1 y) fun v_level => R.ret (.nx (s1.1, v_level, s1.2.2))) else (R.bind (R.bind (R.bind (R.ret v_text) fun x => R.bind (R.ret v_k) fun y => ixR x y) fun x => R.bind (R.ret (.str ")")) fun y => R.bind (eqR x y) boolR) fun b => if b = true then (R.bind (R.ret (.int 1)) fun y => R.bind (subR s1.2.1 y) fun v_level => R.ret (.nx (s1.1, v_level, s1.2.2))) else (R.bind (R.bind (R.bind (R.bind (R.ret v_text) fun x => R.bind (R.ret v_k) fun y => ixR x y) fun x => R.bind (R.ret (.str ";")) fun y => R.bind (eqR x y) boolR) fun x => if x = true then (R.bind (R.bind (R.ret s1.2.1) fun x => R.bind (R.ret (.int 0)) fun y => R.bind (eqR x y) boolR) fun x => if x = true then (R.bind (R.bind (R.ret v_text) fun x => R.bind (R.bind (R.ret v_k) fun x => partR x) fun l => R.bind (R.bind (R.bind (R.ret v_k) fun x => R.bind (R.ret (.int 2)) fun y => addR x y) fun x => partR x) fun h => sliceR x l h) fun x => R.bind (R.ret (.str "; ")) fun y => R.bind (eqR x y) boolR) else R.ret false) else R.ret false) fun b => if b = true then (R.bind (R.bind (R.ret v_text) fun x => R.bind (R.bind (R.ret s1.2.2) fun x => partR x) fun l => R.bind (R.bind (R.ret v_k) fun x => partR x) fun h => sliceR x l h) fun d => R.bind (appR s1.1 d) fun v_words => R.bind (R.bind (R.ret v_k) fun x => R.bind (R.ret (.int 2)) fun y => addR x y) fun v_begin => R.ret (.nx (v_words, s1.2.1, v_begin))) else (R.ret (.nx (s1.1, s1.2.1, s1.2.2)))))) ds (v_words, v_level, v_begin)) fun s1 => R.bind (R.bind (R.ret (.list s1.1)) fun x => R.bind (R.bind (R.bind (R.bind (R.ret v_text) fun x => R.bind (R.bind (R.ret s1.2.2) fun x => partR x) fun l => R.bind (R.ret none) fun h => sliceR x l h) fun x => R.ret [x]) fun ds => R.ret (.list ds)) fun y => addR x y) fun d => R.ret (.rt d ())
def m_split_steps (v_text : D) : R D := endR0 (o_split_steps v_text)
def o_move_index (v_book v_name : D) : R (Out Unit Empty Unit) := R.bind (R.bind (R.bind (R.bind (R.ret v_book) fun x => R.bind (R.ret (.int 1)) fun y => ixR x y) fun x => lenR x) fun x => rng1R x) fun ds => seqR (S := Unit) (forR (fun v_m (s1 : Unit) => R.bind (R.bind (R.bind (R.bind (R.bind (R.ret v_book) fun x => R.bind (R.ret (.int 1)) fun y => ixR x y) fun x => R.bind (R.ret v_m) fun y => ixR x y) fun x => R.bind (R.ret (.int 0)) fun y => ixR x y) fun x => R.bind (R.ret v_name) fun y => R.bind (eqR x y) boolR) fun b => if b = true then (R.bind (R.ret v_m) fun d => R.ret (.rt d ())) else (R.ret (.nx ()))) ds ()) fun s1 => R.bind (R.ret .none) fun d => R.ret (.rt d ())
def m_move_index (v_book v_name : D) : R D := endR0 (o_move_index v_book v_name)
def o_step_of (rec : D → D → D → R D) (v_book v_text v_nested : D) : R (Out Unit Empty Unit) := R.bind (R.bind (R.ret v_book) fun x => R.bind (R.ret v_text) fun y => m_move_index x y) fun v_m => R.bind (R.bind (R.ret v_m) fun x => R.bind (R.ret .none) fun y => R.bind (isNotR x y) boolR) fun b => if b = true then up (R.bind (R.bind (R.ret (.str "do")) fun x => R.bind (R.ret v_m) fun y => R.ret (.tuple [x, y])) fun d => R.ret (.rt d ())) else (R.bind (R.bind (R.bind (R.bind (R.ret v_text) fun x => R.bind (strR x) fun x => R.bind (R.ret (.str " x (")) fun y => splitR x y) fun ds => R.ret (.list ds)) fun x => R.bind (R.ret (.int 0)) fun y => ixR x y) fun v_head => R.bind (R.bind (R.ret v_head) fun x => R.bind (R.ret (.int 1000000000000000000000000000000)) fun y => m_number_of x y) fun v_times => R.bind (R.bind (R.bind (R.ret v_head) fun x => lenR x) fun x => R.bind (R.ret (.int 4)) fun y => addR x y) fun v_begin => R.bind (R.bind (R.bind (R.ret v_times) fun x => R.bind (R.ret .none) fun y => R.bind (isR x y) boolR) fun x => if x = true then R.ret true else (R.bind (R.bind (R.ret v_times) fun x => R.bind (R.ret (.int 0)) fun y => R.bind (eqR x y) boolR) fun x => if x = true then R.ret true else (R.bind (R.bind (R.bind (R.ret v_text) fun x => R.bind (R.bind (R.bind (R.ret v_head) fun x => lenR x) fun x => partR x) fun l => R.bind (R.bind (R.ret v_begin) fun x => partR x) fun h => sliceR x l h) fun x => R.bind (R.ret (.str " x (")) fun y => R.bind (neR x y) boolR) fun x => if x = true then R.ret true else (R.bind (R.bind (R.ret v_text) fun x => R.bind (R.bind (R.ret (.int 1)) fun x => negR x) fun y => ixR x y) fun x => R.bind (R.ret (.str ")")) fun y => R.bind (neR x y) boolR)))) fun b => if b = true then up (R.bind (R.ret .none) fun d => R.ret (.rt d ())) else (R.bind (R.bind (R.ret v_book) fun x => R.bind (R.bind (R.ret v_text) fun x => R.bind (R.bind (R.ret v_begin) fun x => partR x) fun l => R.bind (R.bind (R.bind (R.ret (.int 1)) fun x => negR x) fun x => partR x) fun h => sliceR x l h) fun y => R.bind (R.bind (R.ret v_nested) fun x => R.bind (R.ret (.int 1)) fun y => subR x y) fun z => rec x y z) fun v_inside => R.bind (R.bind (R.bind (R.bind (R.ret v_inside) fun x => R.bind (R.ret .none) fun y => R.bind (isR x y) boolR) fun x => if x = true then R.ret true else (R.bind (R.ret v_inside) fun x => R.bind (R.ret (.tuple [])) fun y => R.bind (eqR x y) boolR)) fun x => if x = true then (R.ret .none) else (R.bind (R.ret (.str "rep")) fun x => R.bind (R.ret v_times) fun y => R.bind (R.ret v_inside) fun z => R.ret (.tuple [x, y, z]))) fun d => R.ret (.rt d ())))
def m_step_of (rec : D → D → D → R D) (v_book v_text v_nested : D) : R D := endR0 (o_step_of rec v_book v_text v_nested)
def o_steps_of (rec : D → D → D → R D) (v_book v_text v_nested : D) : R (Out Unit Empty Unit) := R.bind (R.bind (R.ret v_nested) fun x => R.bind (R.ret (.int 0)) fun y => R.bind (eqR x y) boolR) fun b => if b = true then up (R.bind (R.ret .none) fun d => R.ret (.rt d ())) else (R.bind (R.bind (R.ret v_text) fun x => R.bind (R.ret (.str "nothing")) fun y => R.bind (eqR x y) boolR) fun b => if b = true then up (R.bind (R.ret (.tuple [])) fun d => R.ret (.rt d ())) else (R.bind (R.ret []) fun v_steps => R.bind (R.bind (R.bind (R.ret v_text) fun x => m_split_steps x) fun x => itemsR x) fun ds => seqR (S := List D) (forR (fun v_word (s1 : List D) => R.bind (R.bind (R.bind (R.ret v_word) fun x => R.bind (R.ret (.str "")) fun y => R.bind (neR x y) boolR) fun x => if x = true then (R.bind (R.ret v_book) fun x => R.bind (R.ret v_word) fun y => R.bind (R.ret v_nested) fun z => m_step_of rec x y z) else (R.ret .none)) fun v_step => R.bind (R.bind (R.ret v_step) fun x => R.bind (R.ret .none) fun y => R.bind (isR x y) boolR) fun b => if b = true then up (R.bind (R.ret .none) fun d => R.ret (.rt d ())) else (R.bind (R.ret v_step) fun d => R.bind (appR s1 d) fun v_steps => R.ret (.nx v_steps))) ds v_steps) fun s1 => R.bind (R.bind (R.ret (.list s1)) fun x => tupleR x) fun d => R.ret (.rt d ())))
def m_steps_of : Nat → D → D → D → R D
  | 0 => fun _ _ _ => bad
  | n + 1 => fun v_book v_text v_nested => endR0 (o_steps_of (m_steps_of n) v_book v_text v_nested)
def o_read_run (v_book v_text : D) : R (Out Unit Empty Unit) := R.bind (R.bind (R.ret v_book) fun x => R.bind (R.ret v_text) fun y => R.bind (R.ret (.int 30)) fun z => m_steps_of 6 x y z) fun v_run => R.bind (R.bind (R.ret v_run) fun x => R.bind (R.ret .none) fun y => R.bind (isR x y) boolR) fun b => if b = true then up (bad) else (R.bind (R.ret v_run) fun d => R.ret (.rt d ()))
def m_read_run (v_book v_text : D) : R D := endR0 (o_read_run v_book v_text)
def o_law : R (Out Unit Empty Unit) := R.bind (R.bind (R.ret (.int 1000)) fun x => m_law_book x) fun v_law_book_here => R.bind (R.bind (R.ret v_law_book_here) fun x => R.bind (R.ret (.int 0)) fun y => ixR x y) fun v_law_kinds => R.bind (R.bind (R.bind (R.ret v_law_book_here) fun x => m_print_book x) fun x => R.bind (R.bind (R.ret v_law_book_here) fun x => R.bind (R.ret (.bool false)) fun y => m_law_book_text x y) fun y => R.bind (neR x y) boolR) fun b => if b = true then up (R.bind (R.ret (.bool false)) fun d => R.ret (.rt d ())) else (R.bind (R.bind (R.bind (R.bind (R.bind (R.ret v_law_book_here) fun x => m_print_book x) fun x => m_read_book x) fun x => R.bind (R.ret v_law_book_here) fun y => R.bind (neR x y) boolR) fun x => if x = true then R.ret true else (R.bind (R.bind (R.bind (R.ret v_law_book_here) fun x => R.bind (R.ret (.bool true)) fun y => m_law_book_text x y) fun x => m_read_book x) fun x => R.bind (R.ret v_law_book_here) fun y => R.bind (neR x y) boolR)) fun b => if b = true then up (R.bind (R.ret (.bool false)) fun d => R.ret (.rt d ())) else (R.bind (R.bind (R.bind (R.bind (R.bind (R.ret v_law_kinds) fun x => itemsR x) fun ds => compR (fun _ => R.ret true) (fun v_law_k => (R.bind (R.bind (R.bind (R.ret (.int 0)) fun x => R.bind (R.ret (.int 1)) fun y => R.bind (R.bind (R.ret (.int 10)) fun x => R.bind (R.ret (.int 30)) fun y => powR x y) fun z => R.bind (R.bind (R.bind (R.ret (.int 10)) fun x => R.bind (R.ret (.int 6)) fun y => powR x y) fun x => drawR x) fun w => R.ret [x, y, z, w]) fun ds => R.ret (.list ds)) fun x => R.bind (R.bind (R.ret (.int 4)) fun x => drawR x) fun y => ixR x y)) ds []) fun ds => R.ret (.list ds)) fun x => tupleR x) fun v_law_stock_here => R.bind (R.bind (R.bind (R.ret v_law_book_here) fun x => R.bind (R.ret v_law_stock_here) fun y => m_print_stock x y) fun x => R.bind (R.bind (R.ret v_law_kinds) fun x => R.bind (R.ret v_law_stock_here) fun y => R.bind (R.ret (.bool false)) fun z => m_law_stock_text x y z) fun y => R.bind (neR x y) boolR) fun b => if b = true then up (R.bind (R.ret (.bool false)) fun d => R.ret (.rt d ())) else (R.bind (R.bind (R.bind (R.ret v_law_book_here) fun x => R.bind (R.bind (R.ret v_law_book_here) fun x => R.bind (R.ret v_law_stock_here) fun y => m_print_stock x y) fun y => m_read_stock x y) fun x => R.bind (R.ret v_law_stock_here) fun y => R.bind (neR x y) boolR) fun b => if b = true then up (R.bind (R.ret (.bool false)) fun d => R.ret (.rt d ())) else (R.bind (R.bind (R.bind (R.bind (R.bind (R.ret v_law_stock_here) fun x => itemsR x) fun ds => compR (fun _ => R.ret true) (fun v_law_entry => (R.bind (R.bind (R.bind (R.bind (R.ret (.int 1)) fun x => negR x) fun x => R.bind (R.ret v_law_entry) fun y => R.ret [x, y]) fun ds => R.ret (.list ds)) fun x => R.bind (R.bind (R.ret (.int 2)) fun x => drawR x) fun y => ixR x y)) ds []) fun ds => R.ret (.list ds)) fun x => tupleR x) fun v_law_extended => R.bind (R.bind (R.ret v_law_kinds) fun x => R.bind (R.ret v_law_extended) fun y => R.bind (R.ret (.bool true)) fun z => m_law_stock_text x y z) fun v_law_text => R.bind (R.bind (R.bind (R.ret v_law_book_here) fun x => R.bind (R.ret v_law_extended) fun y => m_print_stock x y) fun x => R.bind (R.bind (R.ret v_law_kinds) fun x => R.bind (R.ret v_law_extended) fun y => R.bind (R.ret (.bool false)) fun z => m_law_stock_text x y z) fun y => R.bind (neR x y) boolR) fun b => if b = true then up (R.bind (R.ret (.bool false)) fun d => R.ret (.rt d ())) else (R.bind (R.bind (R.bind (R.bind (R.ret v_law_book_here) fun x => R.bind (R.ret v_law_text) fun y => m_read_extended x y) fun x => R.bind (R.ret v_law_extended) fun y => R.bind (neR x y) boolR) fun x => if x = true then R.ret true else (R.bind (R.bind (R.ret v_law_book_here) fun x => R.bind (R.bind (R.ret v_law_kinds) fun x => R.bind (R.ret v_law_stock_here) fun y => R.bind (R.ret (.bool true)) fun z => m_law_stock_text x y z) fun y => m_read_stock x y) fun x => R.bind (R.ret v_law_stock_here) fun y => R.bind (neR x y) boolR)) fun b => if b = true then up (R.bind (R.ret (.bool false)) fun d => R.ret (.rt d ())) else (R.bind (R.bind (R.bind (R.bind (R.ret v_law_book_here) fun x => R.bind (R.ret (.int 1)) fun y => ixR x y) fun x => lenR x) fun x => R.bind (R.ret (.int 4)) fun y => R.bind (R.bind (R.ret (.int 10)) fun x => R.bind (R.ret (.int 30)) fun y => powR x y) fun z => m_law_run 6 x y z) fun v_law_run_here => R.bind (R.bind (R.bind (R.bind (R.ret v_law_book_here) fun x => R.bind (R.ret v_law_run_here) fun y => m_print_run 6 x y) fun x => R.bind (R.bind (R.ret v_law_book_here) fun x => R.bind (R.ret v_law_run_here) fun y => m_law_run_text 6 x y) fun y => eqR x y) fun x => R.bind (boolR x) fun x => if x = true then (R.bind (R.bind (R.ret v_law_book_here) fun x => R.bind (R.bind (R.ret v_law_book_here) fun x => R.bind (R.ret v_law_run_here) fun y => m_print_run 6 x y) fun y => m_read_run x y) fun x => R.bind (R.ret v_law_run_here) fun y => eqR x y) else R.ret (.bool false)) fun d => R.ret (.rt d ())))))))
def drawCount : Int := 260
end k01
namespace k01
open Pu PySem R
theorem le_size {n : Nat} (h : n ≤ 1000) : n ≤ sizeLine := Nat.le_of_lt (small1000' h)
theorem small62 {n : Nat} (h : n ≤ 1000) : n < 4611686018427387904 := Nat.lt_of_le_of_lt h (by decide)
/-! What the law's own draws come to. -/
theorem mix_ok (i j : Int) : Ok (m_law_mix (.int i) (.int j)) fun d => ∃ z, d = .int z := by
  unfold m_law_mix o_law_mix
  refine ok_end ?_
  have h : ∀ {x y : Int}, 0 < y → y < 100000 → mulOk x y := fun h1 h2 => .inr ⟨by omega, by omega⟩
  simp only [rb, R.bind_assoc, mul_int (h (by decide : (0:Int) < 48271) (by decide)), mul_int (h (by decide : (0:Int) < 69621) (by decide)), mul_int (h (by decide : (0:Int) < 40692) (by decide)), mul_int (h (by decide : (0:Int) < 7919) (by decide)), add_int, int_int, mod_int (by decide : (2147483647 : Int) ≠ 0), mod_int (by decide : (2147483399 : Int) ≠ 0), okr]
  exact ⟨_, rfl⟩
theorem cut_ints (ns : List Int) (l h : Option Int) : ∃ ms : List Int, cutD (ns.map PyData.int) l h = ms.map PyData.int ∧ ms.length ≤ ns.length := by
  unfold cutD
  rw [← List.map_drop, ← List.map_take]
  refine ⟨_, rfl, ?_⟩
  rw [List.length_take, List.length_drop]
  omega
theorem app_ok {xs : List D} {d : D} (h : xs.length < 100000) : appR xs d = R.ret (xs ++ [d]) := by
  unfold appR
  rw [if_pos (Nat.lt_trans h (by show 100000 < 2 ^ 24; decide))]
theorem ints_snoc (fs : List Int) (z : Int) : fs.map PyData.int ++ [PyData.int z] = (fs ++ [z]).map PyData.int := by rw [List.map_append]; rfl
theorem pow18 : powR (.int 10) (.int 18) = R.ret (.int 1000000000000000000) := by
  have h : (0 : Int) ≤ 18 ∧ (18 : Int) ≤ 1000000 ∧ (10 : Int).natAbs < 2 ^ 64 := by decide
  simp only [powR, h, and_self, if_true]
  congr 2
theorem rng_lit {n : Int} {k : Nat} (h : n = (k : Int)) (hk : k ≤ 1000) : rng1R (.int n) = R.ret (rangeL 0 k) := by rw [h]; exact rng_nat (small62 hk)
theorem numbers_ok {ns : List Int} (hl : ns.length ≤ 63) {N : Nat} (h1 : 1 ≤ N) (hN : N ≤ 1000) : Ok (m_law_numbers (.list (ns.map PyData.int)) (.int (N : Int))) rowsOk := by
  show Ok (endR0 (o_law_numbers (ns.map PyData.int) (.int (N : Int)))) rowsOk
  unfold o_law_numbers
  refine ok_end ?_
  simp only [rb, R.bind_assoc, add_int, part_int, items_l]
  obtain ⟨cs, ec, hc⟩ := cut_ints ns none (some 63)
  rw [ec]
  refine ok_seq (ok_for0 (fun j s => ∃ (fs : List Int) (t : Int), s = (fs.map PyData.int, PyData.int t) ∧ fs.length ≤ 60 * j) ⟨[], _, rfl, Nat.zero_le _⟩ (fun j d s e hi => ?_) fun s hi => ?_)
  · obtain ⟨fs, t, rfl, hf⟩ := hi
    have hj : j < 63 := by
      by_cases hj : j < cs.length
      · omega
      · rw [List.getElem?_eq_none (by rw [List.length_map]; omega)] at e; cases e
    rw [List.getElem?_map] at e
    cases e2 : cs[j]? with
    | none => rw [e2] at e; cases e
    | some z =>
      rw [e2] at e
      cases e
      simp only [rb, R.bind_assoc, abs_int, int_int, mod_int (by decide : (2147483647 : Int) ≠ 0)]
      refine ok_step (mix_ok _ _) fun d e => ?_
      obtain ⟨t2, rfl⟩ := e
      simp only [rb, pow18, ge_int, bool_b]
      generalize (if z < 0 then -z else z) = zz
      by_cases hb : (1000000000000000000 : Int) ≤ zz
      · simp only [hb, decide_true, if_true, rng_lit (k := 60) (n := 60) (by decide) (by decide), rb]
        refine ok_seq (ok_range (fun i s => ∃ (gs : List Int) (y : Int), s = (gs.map PyData.int, PyData.int y) ∧ gs.length ≤ 60 * j + i) ⟨fs, _, rfl, hf⟩ (fun i s hi2 hs => ?_) fun s hs => ?_)
        · obtain ⟨gs, y, rfl, hg⟩ := hs
          simp only [rb, gt_int, bool_b]
          by_cases hy : 0 < y
          · simp only [hy, decide_true, if_true, int_int, rb, mod_int (by decide : (1000 : Int) ≠ 0), fdiv_int (by decide : (1000 : Int) ≠ 0) (fd_small (by decide))]
            rw [app_ok (by rw [List.length_map]; omega), ints_snoc]
            simp only [rb, okr]
            exact ⟨_, _, rfl, by rw [List.length_append]; simp only [List.length_cons, List.length_nil]; omega⟩
          · simp only [hy, decide_false, Bool.false_eq_true, if_false, okr]
            exact ⟨gs, y, rfl, by omega⟩
        · obtain ⟨gs, y, rfl, hg⟩ := hs
          simp only [okr]
          exact ⟨gs, t2, rfl, by omega⟩
      · simp only [hb, decide_false, Bool.false_eq_true, if_false, rng_lit (k := 6) (n := 6) (by decide) (by decide), rb]
        refine ok_seq (ok_range (fun i s => ∃ (gs : List Int), s = gs.map PyData.int ∧ gs.length ≤ 60 * j + i) ⟨fs, rfl, hf⟩ (fun i s hi2 hs => ?_) fun s hs => ?_)
        · obtain ⟨gs, rfl, hg⟩ := hs
          simp only [rb, R.bind_assoc, add_int]
          refine ok_step (mix_ok _ _) fun d e => ?_
          obtain ⟨t3, rfl⟩ := e
          simp only [rb, int_int, mod_int (by decide : (1000 : Int) ≠ 0)]
          rw [app_ok (by rw [List.length_map]; omega), ints_snoc]
          simp only [rb, okr]
          exact ⟨_, rfl, by rw [List.length_append]; simp only [List.length_cons, List.length_nil]; omega⟩
        · obtain ⟨gs, rfl, hg⟩ := hs
          simp only [okr]
          exact ⟨gs, t2, rfl, by omega⟩
  · obtain ⟨fs, t, rfl, hf⟩ := hi
    rw [List.length_map] at hf
    simp only [rb, rng_nat (small62 hN)]
    refine ok_seq (ok_range (fun i s => ∃ (gs : List Int) (y : Int), s = (gs.map PyData.int, PyData.int y) ∧ gs.length ≤ 4000 + i ∧ min i N ≤ gs.length) ⟨fs, t, rfl, by omega, by omega⟩ (fun i s hi2 hs => ?_) fun s hs => ?_)
    · obtain ⟨gs, y, rfl, hg, hm⟩ := hs
      simp only [rb, R.bind_assoc, len_l, lt_int, bool_b, List.length_map]
      by_cases hy : ((gs.length : Nat) : Int) < N
      · simp only [hy, decide_true, if_true, rb, R.bind_assoc, add_int]
        refine ok_step (mix_ok _ _) fun d e => ?_
        obtain ⟨t3, rfl⟩ := e
        simp only [rb, int_int, mod_int (by decide : (1000 : Int) ≠ 0)]
        rw [app_ok (by rw [List.length_map]; omega), ints_snoc]
        simp only [rb, okr]
        exact ⟨_, _, rfl, by rw [List.length_append]; simp only [List.length_cons, List.length_nil]; omega, by rw [List.length_append]; simp only [List.length_cons, List.length_nil]; omega⟩
      · simp only [hy, decide_false, Bool.false_eq_true, if_false, okr]
        exact ⟨gs, y, rfl, by omega, by omega⟩
    · obtain ⟨gs, y, rfl, hg, hm⟩ := hs
      simp only [rb, part_int, sliceR, cut_take, okr]
      rw [← List.map_take]
      have hl : (gs.take N).length = N := by rw [List.length_take]; omega
      exact ⟨_, rfl, fun z => by rw [z] at hl; simp at hl; omega, by rw [hl]; exact hN⟩
theorem named_ok : Ok m_law_named fun d => ∃ ns : List Str, d = .list (ns.map PyData.str) ∧ ns.length = 14 := by
  unfold m_law_named o_law_named
  refine ok_end ?_
  simp only [rb, R.bind_assoc, rng_lit (n := 14) (k := 14) (by decide) (by decide)]
  refine ok_seq (ok_range (fun j s => ∃ ns : List Str, s = ns.map PyData.str ∧ ns.length = j) ⟨[], rfl, rfl⟩ (fun j s hj hs => ?_) fun s hs => ?_)
  · obtain ⟨ns, rfl, hn⟩ := hs
    refine ok_step (draw_lit (n := 5) (k := 5) (by decide) (by decide)) fun d e => ?_
    obtain ⟨i, hi, rfl⟩ := e
    have e5 : ([PyData.int 0, PyData.int 0, PyData.int 1, PyData.int 2, PyData.int 9] : List D) = ([0, 0, 1, 2, 9] : List Int).map PyData.int := rfl
    rw [e5]
    simp only [ix_ints (ns := [0, 0, 1, 2, 9]) (i := i) hi, rb]
    have hz : ∀ z ∈ ([0, 0, 1, 2, 9] : List Int), 0 ≤ z ∧ z ≤ 9 := by decide
    obtain ⟨z0, z1⟩ := hz _ (List.getElem_mem (l := ([0, 0, 1, 2, 9] : List Int)) (n := i) hi)
    generalize ([0, 0, 1, 2, 9] : List Int)[i] = z at z0 z1
    simp only [strR, rb, rng_int z0 (Int.le_trans z1 (by decide))]
    refine ok_step (comp_all (P := fun y => ∃ x : Str, y = .str x ∧ x.length ≤ 1) (Q := fun ys => ∃ zs : List Str, ys = zs.map PyData.str ∧ zs.length ≤ 9 ∧ ∀ x ∈ zs, x.length ≤ 1) (fun d hd => ?_) (by rw [rangeL_length]; exact le_size (by omega)) fun ys hl hp => ?_) fun ys hy => ?_
    · rw [add_str (by decide +kernel)]
      simp only [rb]
      refine ok_step (draw_lit (n := 36) (k := 36) (by decide) (by decide)) fun d e => ?_
      obtain ⟨q, hq, rfl⟩ := e
      refine ok_eq (ix_str (Nat.lt_of_lt_of_le hq (by decide +kernel)) (by decide +kernel)) ⟨_, rfl, Nat.le_refl _⟩
    · obtain ⟨zs, e1, e2⟩ := all_map (g := PyData.str) hp
      refine ⟨zs, e1, ?_, e2⟩
      rw [e1, List.length_map, rangeL_length] at hl
      omega
    · obtain ⟨zs, rfl, hl, hone⟩ := hy
      have hsum := sum_ones hone
      have h0 : (Str.ofString "").length = 0 := by decide +kernel
      have hs1 : (zs.map (·.length)).sum + zs.length * (Str.ofString "").length ≤ 1000 := by rw [h0]; omega
      simp only [join_strs hs1, rb]
      have hjl := join_len (Str.ofString "") zs
      rw [h0] at hjl
      generalize Txt.join (Str.ofString "") zs = w at hjl
      refine ok_step (draw_lit (n := 26) (k := 26) (by decide) (by decide)) fun d e => ?_
      obtain ⟨q, hq, rfl⟩ := e
      rw [ix_str (Nat.lt_of_lt_of_le hq (by decide +kernel)) (by decide +kernel)]
      simp only [rb]
      rw [add_str (by show 1 + w.length ≤ 1000; omega)]
      simp only [rb]
      rw [ix_str (i := j) (Nat.lt_of_lt_of_le hj (by decide +kernel)) (by decide +kernel)]
      simp only [rb]
      rw [add_str (by rw [len_app]; show 1 + w.length + 1 ≤ 1000; omega)]
      simp only [rb]
      rw [app_ok (by rw [List.length_map]; omega)]
      simp only [rb, okr]
      exact ⟨ns ++ [_], by rw [List.map_append]; rfl, by rw [List.length_append, hn]; rfl⟩
  · obtain ⟨ns, rfl, hn⟩ := hs
    simp only [okr]
    exact ⟨ns, rfl, hn⟩
theorem stock_ok {n : Nat} {most : Int} (hn : n ≤ 1000) (h0 : 0 ≤ most) : Ok (m_law_stock (.int (n : Int)) (.int most)) fun d => ∃ s : Nat → Int, d = vec n s ∧ ∀ k, 0 ≤ s k ∧ s k ≤ most := by
  unfold m_law_stock o_law_stock
  refine ok_end ?_
  simp only [rb, R.bind_assoc, rng_nat (small62 hn)]
  refine ok_seq (ok_range (fun j s => ∃ ns : List Int, s = ns.map PyData.int ∧ ns.length = j ∧ ∀ x ∈ ns, 0 ≤ x) ⟨[], rfl, rfl, by simp⟩ (fun j s hj hs => ?_) fun s hs => ?_)
  · obtain ⟨ns, rfl, hl, hp⟩ := hs
    simp only [rb, R.bind_assoc, add_int]
    refine ok_step (draw_pos (by omega)) fun d e => ?_
    obtain ⟨z, z0, z1, rfl⟩ := e
    refine ok_step (draw_lit (n := 6) (k := 6) (by decide) (by decide)) fun d e => ?_
    obtain ⟨i, hi, rfl⟩ := e
    have e5 : ([PyData.int 0, PyData.int 0, PyData.int 1, PyData.int 2, PyData.int z, PyData.int most] : List D) = ([0, 0, 1, 2, z, most] : List Int).map PyData.int := rfl
    rw [e5]
    simp only [ix_ints (ns := [0, 0, 1, 2, z, most]) (i := i) hi, rb]
    rw [app_ok (by rw [List.length_map]; omega), ints_snoc]
    simp only [rb, okr]
    refine ⟨_, rfl, by rw [List.length_append, hl]; rfl, fun x hx => ?_⟩
    rcases List.mem_append.mp hx with hx | hx
    · exact hp x hx
    · rw [List.mem_singleton] at hx
      subst hx
      have := List.getElem_mem (l := ([0, 0, 1, 2, z, most] : List Int)) (n := i) hi
      simp only [List.mem_cons, List.not_mem_nil, or_false] at this
      omega
  · obtain ⟨ns, rfl, hl, hp⟩ := hs
    simp only [rb, items_l]
    rw [vecL_of, hl, comp_vec (g := fun k => PyData.int (if ns.getD k 0 < most then ns.getD k 0 else most)) (le_size hn) fun k hk => min_int]
    simp only [rb, tuple_l, okr]
    refine ⟨fun k => if ns.getD k 0 < most then ns.getD k 0 else most, rfl, fun k => ?_⟩
    have hz : 0 ≤ ns.getD k 0 := by
      by_cases hk : k < ns.length
      · simp only [List.getD, List.getElem?_eq_getElem hk, Option.getD_some]
        exact hp _ (List.getElem_mem hk)
      · simp only [List.getD, List.getElem?_eq_none (show ns.length ≤ k by omega), Option.getD_none]
        exact Int.le_refl 0
    show 0 ≤ (if ns.getD k 0 < most then ns.getD k 0 else most) ∧ (if ns.getD k 0 < most then ns.getD k 0 else most) ≤ most
    split <;> omega
def BInv (n : Nat) (most : Int) (j : Nat) (s : List D) : Prop := ∃ (nm : Nat → Str) (tk lo hi : Nat → Nat → Int), s = (List.range j).map (fun i => PyData.tuple [.str (nm i), vec n (tk i), vec n (lo i), vec n (hi i)]) ∧
  ∀ i k, 0 ≤ tk i k ∧ tk i k ≤ most ∧ 0 ≤ lo i k ∧ lo i k ≤ hi i k ∧ hi i k ≤ most
theorem book_ok {most : Int} (h0 : 0 ≤ most) : Ok (m_law_book (.int most)) fun d => ∃ b : Bk, d = b.d ∧ b.Fine most ∧ b.n ≤ 6 ∧ b.mm ≤ 8 := by
  unfold m_law_book o_law_book
  refine ok_end ?_
  refine ok_step named_ok fun d e => ?_
  obtain ⟨ns, rfl, hns⟩ := e
  simp only [rb, R.bind_assoc]
  refine ok_step (draw_lit (n := 6) (k := 6) (by decide) (by decide)) fun d e => ?_
  obtain ⟨n', hn', rfl⟩ := e
  have en : (1 : Int) + (n' : Int) = ((n' + 1 : Nat) : Int) := by omega
  simp only [rb, add_int, en]
  have hn : n' + 1 ≤ 6 := hn'
  have hn1 : 1 ≤ n' + 1 := by omega
  generalize n' + 1 = n at hn hn1
  refine ok_step (draw_lit (n := 9) (k := 9) (by decide) (by decide)) fun d e => ?_
  obtain ⟨mm, hmm, rfl⟩ := e
  simp only [rb, rng_nat (small62 (show mm ≤ 1000 by omega))]
  refine ok_seq (ok_range (BInv n most) ⟨fun _ => ⟨#[]⟩, fun _ _ => 0, fun _ _ => 0, fun _ _ => 0, rfl, fun _ _ => ⟨Int.le_refl 0, h0, Int.le_refl 0, Int.le_refl 0, h0⟩⟩ (fun j s hj hs => ?_) fun s hs => ?_)
  · refine ok_mono (P := fun o => ∃ s', o = .nx s' ∧ BInv n most (j + 1) s') ?_ fun o ⟨s', e, h⟩ => by subst e; exact h
    obtain ⟨nm, tk, lo, hi, rfl, hb⟩ := hs
    refine ok_step (stock_ok (by omega) h0) fun d e => ?_
    obtain ⟨t, rfl, ht⟩ := e
    refine ok_step (stock_ok (by omega) h0) fun d e => ?_
    obtain ⟨h, rfl, hh⟩ := e
    refine ok_step (draw_lit (n := 3) (k := 3) (by decide) (by decide)) fun d e => ?_
    obtain ⟨q, hq, rfl⟩ := e
    simp only [rb, eq_int, bool_b]
    have nd : (ns.map PyData.str)[6 + j]? = some (PyData.str (ns[6 + j]'(by omega))) := by rw [List.getElem?_map, List.getElem?_eq_getElem (by omega)]; rfl
    have e6 : (6 : Int) + (j : Int) = ((6 + j : Nat) : Int) := by omega
    refine ok_seq (ok_mono (P := fun o => ∃ l : Nat → Int, o = .nx (vec n l) ∧ ∀ k, 0 ≤ l k ∧ l k ≤ h k) ?_ fun o ⟨l, e, hl⟩ => ?_)
    · by_cases hq0 : (q : Int) = 0
      · simp only [hq0, decide_true, if_true, items_vec, rb, R.bind_assoc]
        refine ok_step (comp_vec_ok (P := fun k z => 0 ≤ z ∧ z ≤ h k) (le_size (by omega)) fun k hk => ?_) fun ys hy => ?_
        · simp only [rb, add_int]
          refine ok_mono (draw_pos (by have := (hh k).1; omega)) fun d e => ?_
          obtain ⟨i, h1, h2, rfl⟩ := e
          exact ⟨i, rfl, h1, by omega⟩
        · obtain ⟨l, rfl, h1, h2⟩ := hy
          simp only [rb, tuple_l, okr]
          refine ⟨l, rfl, fun k => ?_⟩
          by_cases hk : k < n
          · exact h1 k hk
          · rw [h2 k (by omega)]
            exact ⟨Int.le_refl 0, (hh k).1⟩
      · simp only [hq0, decide_false, Bool.false_eq_true, if_false, okr]
        exact ⟨h, rfl, fun k => ⟨(hh k).1, Int.le_refl _⟩⟩
    · subst e
      simp only [add_int, e6, rb, ix_lst nd]
      rw [app_ok (by rw [List.length_map, List.length_range]; omega)]
      simp only [rb, okr]
      refine ⟨_, rfl, fun i => if i = j then ns[6 + j]'(by omega) else nm i, fun i => if i = j then t else tk i, fun i => if i = j then l else lo i, fun i => if i = j then h else hi i, ?_, fun i k => ?_⟩
      · rw [List.range_succ, List.map_append]
        congr 1
        · exact List.map_congr_left fun i hi => by
            have : i ≠ j := Nat.ne_of_lt (List.mem_range.mp hi)
            simp only [this, if_false]
        · simp only [List.map_cons, List.map_nil, if_true]
      · by_cases hij : i = j
        · simp only [hij, if_true]
          exact ⟨(ht k).1, (ht k).2, (hl k).1, (hl k).2, (hh k).2⟩
        · simp only [hij, if_false]
          exact hb i k
  · obtain ⟨nm, tk, lo, hi, rfl, hb⟩ := hs
    simp only [rb, part_int, sliceR, cut_take, tuple_l, okr]
    refine ⟨⟨n, mm, (ns.map PyData.str).take n, nm, tk, lo, hi⟩, rfl, ⟨hn1, by show n ≤ 20; omega, by show mm ≤ 100; omega, ?_, fun i k => (hb i k).1, fun i k => (hb i k).2.1, fun i k => (hb i k).2.2.1, fun i k => (hb i k).2.2.2.1, fun i k => (hb i k).2.2.2.2⟩, hn, by show mm ≤ 8; omega⟩
    show ((ns.map PyData.str).take n).length = n
    rw [List.length_take, List.length_map]
    omega
/-! Names, and a drawn book with its names. -/
section
def low (c : Nat) : Prop := 97 ≤ c ∧ c ≤ 122
def alnum (c : Nat) : Prop := low c ∨ (48 ≤ c ∧ c ≤ 57)
/-- a name -/
structure NmOk (l : List Nat) : Prop where
  hd : ∃ c r, l = c :: r ∧ low c
  al : ∀ c ∈ l, alnum c
  len : 2 ≤ l.length ∧ l.length ≤ 12
  n5 : l.length ≠ 5
  n7 : l.length ≠ 7
  n10 : l.length ≠ 10
theorem alnum_lt {c : Nat} (h : alnum c) : 48 ≤ c ∧ c ≤ 122 ∧ c ≠ 59 ∧ c ≠ 58 ∧ c ≠ 62 := by
  rcases h with h | h
  · unfold low at h; omega
  · omega
theorem NmOk.sg {l : List Nat} (h : NmOk l) : Sg l := fun c hc => by have := alnum_lt (h.al c hc); omega
theorem NmOk.free {l : List Nat} (h : NmOk l) {s : Nat} (hs : s < 48 ∨ s = 58 ∨ s = 59 ∨ s = 62) : s ∉ l := fun hc => by have := alnum_lt (h.al s hc); omega
def smallL : List Nat := [97, 98, 99, 100, 101, 102, 103, 104, 105, 106, 107, 108, 109, 110, 111, 112, 113, 114, 115, 116, 117, 118, 119, 120, 121, 122]
def digL : List Nat := [48, 49, 50, 51, 52, 53, 54, 55, 56, 57]
theorem lit_small : PyData.str "abcdefghijklmnopqrstuvwxyz" = tD smallL := congrArg PyData.str (by decide +kernel)
theorem lit_dig : PyData.str "0123456789" = tD digL := congrArg PyData.str (by decide +kernel)
theorem lit_ends : PyData.str "abcdefghijklmn" = tD (smallL.take 14) := congrArg PyData.str (by decide +kernel)
theorem lit_no : (Str.ofString "" : Str) = tx [] := by decide +kernel
theorem small_at : ∀ i, i < 26 → smallL[i]? = some (97 + i) := by decide
theorem both_at : ∀ i, i < 36 → ∃ c, (smallL ++ digL)[i]? = some c ∧ (97 ≤ c ∧ c ≤ 122 ∨ (48 ≤ c ∧ c ≤ 57)) := fun i hi => by
  by_cases h : i < 26
  · exact ⟨97 + i, by rw [List.getElem?_append_left (show i < smallL.length from h)]; exact small_at i h, .inl ⟨by omega, by omega⟩⟩
  · have d : ∀ j, j < 10 → digL[j]? = some (48 + j) := by decide
    exact ⟨48 + (i - 26), by rw [List.getElem?_append_right (show smallL.length ≤ i from Nat.le_of_not_lt h)]; exact d (i - 26) (by omega), .inr ⟨by omega, by omega⟩⟩
theorem joinN : ∀ cs : List Nat, TL.joinL [] (cs.map fun c => [c]) = cs
  | [] => rfl
  | [c] => rfl
  | c :: d :: r => by
    show [c] ++ ([] ++ TL.joinL [] ((d :: r).map fun c => [c])) = c :: d :: r
    rw [joinN (d :: r)]
    rfl
/-- the name k of a draw -/
def NmK (k : Nat) (l : List Nat) : Prop := NmOk l ∧ ∃ r, l = r ++ [97 + k]
theorem named_okN : Ok m_law_named fun d => ∃ ls : List (List Nat), d = .list (ls.map tD) ∧ ls.length = 14 ∧ ∀ k l, ls[k]? = some l → NmK k l := by
  unfold m_law_named o_law_named
  refine ok_end ?_
  simp only [rb, R.bind_assoc, rng_lit (n := 14) (k := 14) (by decide) (by decide)]
  refine ok_seq (ok_range (fun j s => ∃ ls : List (List Nat), s = ls.map tD ∧ ls.length = j ∧ ∀ k l, ls[k]? = some l → NmK k l) ⟨[], rfl, rfl, by simp⟩ (fun j s hj hs => ?_) fun s hs => ?_)
  · obtain ⟨ls, rfl, hn, hls⟩ := hs
    refine ok_step (draw_lit (n := 5) (k := 5) (by decide) (by decide)) fun d e => ?_
    obtain ⟨i, hi, rfl⟩ := e
    have e5 : ([PyData.int 0, PyData.int 0, PyData.int 1, PyData.int 2, PyData.int 9] : List D) = ([0, 0, 1, 2, 9] : List Int).map PyData.int := rfl
    rw [e5]
    simp only [ix_ints (ns := [0, 0, 1, 2, 9]) (i := i) hi, rb]
    have hz : ∀ z ∈ ([0, 0, 1, 2, 9] : List Int), 0 ≤ z ∧ z ≤ 9 ∧ z ≠ 3 ∧ z ≠ 5 ∧ z ≠ 8 := by decide
    obtain ⟨z0, z1, z3, z5, z8⟩ := hz _ (List.getElem_mem (l := ([0, 0, 1, 2, 9] : List Int)) (n := i) hi)
    generalize ([0, 0, 1, 2, 9] : List Int)[i] = z at z0 z1 z3 z5 z8
    simp only [lit_small, lit_dig, lit_ends, lit_no, strR, rb, rng_int z0 (Int.le_trans z1 (by decide))]
    refine ok_step (comp_all (P := fun y => ∃ c : Nat, y = tD [c] ∧ alnum c) (Q := fun ys => ∃ cs : List Nat, ys = (cs.map fun c => [c]).map tD ∧ cs.length = z.toNat ∧ ∀ c ∈ cs, alnum c) (fun d hd => ?_) (by rw [rangeL_length]; exact le_size (by omega)) fun ys hl hp => ?_) fun ys hy => ?_
    · rw [add_tx (by decide)]
      simp only [rb]
      refine ok_step (draw_lit (n := 36) (k := 36) (by decide) (by decide)) fun d e => ?_
      obtain ⟨q, hq, rfl⟩ := e
      obtain ⟨c, hc, ha⟩ := both_at q hq
      refine ok_eq (ix_tx hc (by decide)) ⟨c, rfl, ha⟩
    · obtain ⟨cs, e1, e2⟩ := all_map (g := fun c => tD [c]) hp
      refine ⟨cs, by rw [e1, List.map_map]; rfl, ?_, e2⟩
      rw [e1, List.length_map, rangeL_length] at hl
      exact hl
    · obtain ⟨cs, rfl, hl, hcs⟩ := hy
      have hs1 : sumL ([] : List Nat).length (cs.map fun c => [c]) ≤ tMax := by
        unfold sumL
        rw [List.map_map, show (List.length ∘ fun c : Nat => [c]) = fun _ => 1 from rfl, List.map_const', List.sum_replicate_nat]
        show cs.length * 1 + _ * 0 ≤ 1000000
        omega
      simp only [join_tx hs1, joinN, rb]
      refine ok_step (draw_lit (n := 26) (k := 26) (by decide) (by decide)) fun d e => ?_
      obtain ⟨q, hq, rfl⟩ := e
      rw [ix_tx (small_at q hq) (by decide)]
      simp only [rb]
      have hc9 : cs.length ≤ 9 := by omega
      rw [add_tx (by show 1 + cs.length ≤ 1000000; omega)]
      simp only [rb]
      have ej : (smallL.take 14)[j]? = some (97 + j) := by rw [List.getElem?_take_of_lt hj]; exact small_at j (by omega)
      rw [ix_tx ej (by decide)]
      simp only [rb]
      rw [add_tx (by rw [List.length_append]; show 1 + cs.length + 1 ≤ 1000000; omega)]
      simp only [rb]
      rw [app_ok (by rw [List.length_map]; omega)]
      simp only [rb, okr]
      refine ⟨ls ++ [[97 + q] ++ cs ++ [97 + j]], by rw [List.map_append]; rfl, by rw [List.length_append, hn]; rfl, fun k l hk => ?_⟩
      by_cases h : k < ls.length
      · rw [List.getElem?_append_left h] at hk
        exact hls k l hk
      · rw [List.getElem?_append_right (by omega)] at hk
        have hk0 : k - ls.length = 0 := by
          by_cases z : k - ls.length = 0
          · exact z
          · rw [List.getElem?_eq_none (by simp only [List.length_cons, List.length_nil]; omega)] at hk
            cases hk
        rw [hk0] at hk
        have hk : [97 + q] ++ cs ++ [97 + j] = l := by injection hk
        subst hk
        have ekj : k = j := by omega
        subst ekj
        have len : ([97 + q] ++ cs ++ [97 + k]).length = cs.length + 2 := by simp only [List.length_append, List.length_cons, List.length_nil]; omega
        refine ⟨⟨⟨97 + q, cs ++ [97 + k], rfl, by unfold low; omega⟩, fun c hc => ?_, by rw [len]; omega, by rw [len]; omega, by rw [len]; omega, by rw [len]; omega⟩, [97 + q] ++ cs, rfl⟩
        rcases List.mem_append.mp hc with hc | hc
        · rcases List.mem_append.mp hc with hc | hc
          · rw [List.mem_singleton] at hc
            exact .inl (by unfold low; omega)
          · exact hcs c hc
        · rw [List.mem_singleton] at hc
          exact .inl (by unfold low; omega)
  · obtain ⟨ls, rfl, hn⟩ := hs
    simp only [okr]
    exact ⟨ls, rfl, hn⟩
theorem NmK.inj {j k : Nat} {l : List Nat} (h : NmK j l) (g : NmK k l) : j = k := by
  obtain ⟨_, r, e⟩ := h
  obtain ⟨_, r2, e2⟩ := g
  rw [e] at e2
  have := (List.append_inj' e2 rfl).2
  injection this with this
  omega
/-- a book's names -/
structure BkN (b : Bk) (kn mn : Nat → List Nat) : Prop where
  names : b.names = (List.range b.n).map fun k => tD (kn k)
  nm : ∀ i, i < b.mm → b.nm i = tx (mn i)
  kok : ∀ k, k < b.n → NmOk (kn k)
  mok : ∀ i, i < b.mm → NmOk (mn i)
  kinj : ∀ j k, j < b.n → k < b.n → kn j = kn k → j = k
  minj : ∀ i j, i < b.mm → j < b.mm → mn i = mn j → i = j
  apart : ∀ k i, k < b.n → i < b.mm → kn k ≠ mn i
def BInvN (ls : List (List Nat)) (n : Nat) (most : Int) (j : Nat) (s : List D) : Prop := ∃ (tk lo hi : Nat → Nat → Int), s = (List.range j).map (fun i => PyData.tuple [tD (ls.getD (6 + i) []), vec n (tk i), vec n (lo i), vec n (hi i)]) ∧
  ∀ i k, 0 ≤ tk i k ∧ tk i k ≤ most ∧ 0 ≤ lo i k ∧ lo i k ≤ hi i k ∧ hi i k ≤ most
theorem book_okN {most : Int} (h0 : 0 ≤ most) : Ok (m_law_book (.int most)) fun d => ∃ (b : Bk) (kn mn : Nat → List Nat), d = b.d ∧ b.Fine most ∧ b.n ≤ 6 ∧ b.mm ≤ 8 ∧ BkN b kn mn := by
  unfold m_law_book o_law_book
  refine ok_end ?_
  refine ok_step named_okN fun d e => ?_
  obtain ⟨ls, rfl, hns, hls⟩ := e
  simp only [rb, R.bind_assoc]
  refine ok_step (draw_lit (n := 6) (k := 6) (by decide) (by decide)) fun d e => ?_
  obtain ⟨n', hn', rfl⟩ := e
  have en : (1 : Int) + (n' : Int) = ((n' + 1 : Nat) : Int) := by omega
  simp only [rb, add_int, en]
  have hn : n' + 1 ≤ 6 := hn'
  have hn1 : 1 ≤ n' + 1 := by omega
  generalize n' + 1 = n at hn hn1
  refine ok_step (draw_lit (n := 9) (k := 9) (by decide) (by decide)) fun d e => ?_
  obtain ⟨mm, hmm, rfl⟩ := e
  simp only [rb, rng_nat (small62 (show mm ≤ 1000 by omega))]
  refine ok_seq (ok_range (BInvN ls n most) ⟨fun _ _ => 0, fun _ _ => 0, fun _ _ => 0, rfl, fun _ _ => ⟨Int.le_refl 0, h0, Int.le_refl 0, Int.le_refl 0, h0⟩⟩ (fun j s hj hs => ?_) fun s hs => ?_)
  · refine ok_mono (P := fun o => ∃ s', o = .nx s' ∧ BInvN ls n most (j + 1) s') ?_ fun o ⟨s', e, h⟩ => by subst e; exact h
    obtain ⟨tk, lo, hi, rfl, hb⟩ := hs
    refine ok_step (stock_ok (by omega) h0) fun d e => ?_
    obtain ⟨t, rfl, ht⟩ := e
    refine ok_step (stock_ok (by omega) h0) fun d e => ?_
    obtain ⟨h, rfl, hh⟩ := e
    refine ok_step (draw_lit (n := 3) (k := 3) (by decide) (by decide)) fun d e => ?_
    obtain ⟨q, hq, rfl⟩ := e
    simp only [rb, eq_int, bool_b]
    have nd : (ls.map tD)[6 + j]? = some (tD (ls.getD (6 + j) [])) := by
      rw [List.getElem?_map, List.getElem?_eq_getElem (show 6 + j < ls.length by omega)]
      simp only [List.getD, List.getElem?_eq_getElem (show 6 + j < ls.length by omega), Option.getD_some, Option.map_some]
    have e6 : (6 : Int) + (j : Int) = ((6 + j : Nat) : Int) := by omega
    refine ok_seq (ok_mono (P := fun o => ∃ l : Nat → Int, o = .nx (vec n l) ∧ ∀ k, 0 ≤ l k ∧ l k ≤ h k) ?_ fun o ⟨l, e, hl⟩ => ?_)
    · by_cases hq0 : (q : Int) = 0
      · simp only [hq0, decide_true, if_true, items_vec, rb, R.bind_assoc]
        refine ok_step (comp_vec_ok (P := fun k z => 0 ≤ z ∧ z ≤ h k) (le_size (by omega)) fun k hk => ?_) fun ys hy => ?_
        · simp only [rb, add_int]
          refine ok_mono (draw_pos (by have := (hh k).1; omega)) fun d e => ?_
          obtain ⟨i, h1, h2, rfl⟩ := e
          exact ⟨i, rfl, h1, by omega⟩
        · obtain ⟨l, rfl, h1, h2⟩ := hy
          simp only [rb, tuple_l, okr]
          refine ⟨l, rfl, fun k => ?_⟩
          by_cases hk : k < n
          · exact h1 k hk
          · rw [h2 k (by omega)]
            exact ⟨Int.le_refl 0, (hh k).1⟩
      · simp only [hq0, decide_false, Bool.false_eq_true, if_false, okr]
        exact ⟨h, rfl, fun k => ⟨(hh k).1, Int.le_refl _⟩⟩
    · subst e
      simp only [add_int, e6, rb, ix_lst nd]
      rw [app_ok (by rw [List.length_map, List.length_range]; omega)]
      simp only [rb, okr]
      refine ⟨_, rfl, fun i => if i = j then t else tk i, fun i => if i = j then l else lo i, fun i => if i = j then h else hi i, ?_, fun i k => ?_⟩
      · rw [List.range_succ, List.map_append]
        congr 1
        · exact List.map_congr_left fun i hi => by
            have : i ≠ j := Nat.ne_of_lt (List.mem_range.mp hi)
            simp only [this, if_false]
        · simp only [List.map_cons, List.map_nil, if_true]
      · by_cases hij : i = j
        · simp only [hij, if_true]
          exact ⟨(ht k).1, (ht k).2, (hl k).1, (hl k).2, (hh k).2⟩
        · simp only [hij, if_false]
          exact hb i k
  · obtain ⟨tk, lo, hi, rfl, hb⟩ := hs
    simp only [rb, part_int, sliceR, cut_take, tuple_l, okr]
    have at' : ∀ k, k < 14 → NmK k (ls.getD k []) := fun k hk => by
      refine hls k _ ?_
      simp only [List.getD, List.getElem?_eq_getElem (show k < ls.length by omega), Option.getD_some]
    refine ⟨⟨n, mm, (ls.map tD).take n, fun i => tx (ls.getD (6 + i) []), tk, lo, hi⟩, fun k => ls.getD k [], fun i => ls.getD (6 + i) [], rfl, ⟨hn1, by show n ≤ 20; omega, by show mm ≤ 100; omega, ?_, fun i k => (hb i k).1, fun i k => (hb i k).2.1, fun i k => (hb i k).2.2.1, fun i k => (hb i k).2.2.2.1, fun i k => (hb i k).2.2.2.2⟩, hn, by show mm ≤ 8; omega, ?_, fun i _ => rfl, fun k hk => ?_, fun i hi => ?_, fun j k hj hk e => ?_, fun i j hi hj e => ?_, fun k i hk hi e => ?_⟩
    · show ((ls.map tD).take n).length = n
      rw [List.length_take, List.length_map]
      omega
    · show (ls.map tD).take n = (List.range n).map fun k => tD (ls.getD k [])
      apply List.ext_getElem?
      intro i
      by_cases hi : i < n
      · rw [List.getElem?_take_of_lt hi, List.getElem?_map, List.getElem?_map, List.getElem?_range hi, List.getElem?_eq_getElem (show i < ls.length by omega)]
        simp only [List.getD, List.getElem?_eq_getElem (show i < ls.length by omega), Option.getD_some, Option.map_some]
      · rw [List.getElem?_eq_none (by rw [List.length_take, List.length_map]; omega), List.getElem?_eq_none (by rw [List.length_map, List.length_range]; omega)]
    · have hk : k < n := hk
      exact (at' k (by omega)).1
    · have hi : i < mm := hi
      exact (at' (6 + i) (by omega)).1
    · have hj : j < n := hj
      have hk : k < n := hk
      have e : ls.getD j [] = ls.getD k [] := e
      have h1 := at' j (by omega)
      rw [e] at h1
      exact h1.inj (at' k (by omega))
    · have hi : i < mm := hi
      have hj : j < mm := hj
      have e : ls.getD (6 + i) [] = ls.getD (6 + j) [] := e
      have h1 := at' (6 + i) (by omega)
      rw [e] at h1
      have := h1.inj (at' (6 + j) (by omega))
      omega
    · have hk : k < n := hk
      have hi : i < mm := hi
      have e : ls.getD k [] = ls.getD (6 + i) [] := e
      have h1 := at' k (by omega)
      rw [e] at h1
      have := h1.inj (at' (6 + i) (by omega))
      omega
end
theorem ok_seqP' {S S' B T : Type} {P : S → Prop} {r : R (Out S B T)} {f : S → R (Out S' B T)} {Q : Out S' B T → Prop} (h : Ok r fun o => ∃ s, o = .nx s ∧ P s) (k : ∀ s, P s → Ok (f s) Q) : Ok (seqR r f) Q := ok_seq (ok_mono h fun o ho => by obtain ⟨s, rfl, hs⟩ := ho; exact k s hs)
/-! Items printed and read. -/
section
def nothingL : List Nat := [110, 111, 116, 104, 105, 110, 103]
def endlessL : List Nat := [101, 110, 100, 108, 101, 115, 115]
theorem lit_nothing : PyData.str "nothing" = tD nothingL := congrArg PyData.str (by decide +kernel)
theorem lit_endless : PyData.str "endless" = tD endlessL := congrArg PyData.str (by decide +kernel)
theorem lit_plus : PyData.str " + " = tD [32, 43, 32] := congrArg PyData.str (by decide +kernel)
theorem lit_sp : PyData.str " " = tD [32] := congrArg PyData.str (by decide +kernel)
theorem lit_nil : PyData.str "" = tD [] := congrArg PyData.str (by decide +kernel)
theorem lit_dots : PyData.str ".." = tD [46, 46] := congrArg PyData.str (by decide +kernel)
theorem lit_colon : PyData.str ": " = tD [58, 32] := congrArg PyData.str (by decide +kernel)
theorem lit_arrow : PyData.str " -> " = tD [32, 45, 62, 32] := congrArg PyData.str (by decide +kernel)
theorem lit_line : PyData.str "\n" = tD [10] := congrArg PyData.str (by decide +kernel)
theorem lit_kinds : PyData.str "kinds" = tD [107, 105, 110, 100, 115] := congrArg PyData.str (by decide +kernel)
theorem lit_kindsp : PyData.str "kinds " = tD [107, 105, 110, 100, 115, 32] := congrArg PyData.str (by decide +kernel)
theorem lit_zero : PyData.str "0" = tD [48] := congrArg PyData.str (by decide +kernel)
theorem lit_x : PyData.str "x" = tD [120] := congrArg PyData.str (by decide +kernel)
theorem lit_open : PyData.str "(" = tD [40] := congrArg PyData.str (by decide +kernel)
theorem lit_close : PyData.str ")" = tD [41] := congrArg PyData.str (by decide +kernel)
theorem lit_semi : PyData.str ";" = tD [59] := congrArg PyData.str (by decide +kernel)
theorem lit_semis : PyData.str "; " = tD [59, 32] := congrArg PyData.str (by decide +kernel)
theorem lit_rep : PyData.str " x (" = tD [32, 120, 32, 40] := congrArg PyData.str (by decide +kernel)
theorem sg_nothing : Sg nothingL := by unfold Sg; decide
theorem sg_endless : Sg endlessL := by unfold Sg; decide
theorem sg_nil : Sg [] := by unfold Sg; simp
theorem strR_tx {l : List Nat} : strR (tD l) = R.ret (tx l) := rfl
theorem rangeL_nat {n : Nat} : rangeL 0 n = (List.range n).map fun t : Nat => PyData.int (t : Int) := by
  unfold rangeL
  apply List.map_congr_left
  intro k _
  rw [Int.zero_add]
def oD : Option (List Nat) → D
  | none => .none
  | some w => tD w
theorem isNotN_oD {o : Option (List Nat)} : isNotR (oD o) .none = R.ret (.bool o.isSome) := by cases o <;> rfl
theorem ix_txs {ls : List (List Nat)} {i : Nat} {l : List Nat} (h : ls[i]? = some l) : ixR (.list (ls.map tD)) (.int (i : Int)) = R.ret (tD l) := ix_lst (by rw [List.getElem?_map, h]; rfl)
theorem ix_rng {β : Type} {f : Nat → D} {n k : Nat} (hk : k < n) : ((List.range n).map f)[k]? = some (f k) := by rw [List.getElem?_map, List.getElem?_range hk]; rfl
/-- words in front of kinds -/
structure Wd6 (n : Nat) (w : Nat → Option (List Nat)) (kn : Nat → List Nat) : Prop where
  n6 : n ≤ 6
  kok : ∀ k, k < n → NmOk (kn k)
  kinj : ∀ j k, j < n → k < n → kn j = kn k → j = k
  wok : ∀ k, k < n → ∀ l, w k = some l → l ≠ [] ∧ l.length ≤ 100 ∧ ∀ c ∈ l, alnum c ∨ c = 46
def itemT (w : Nat → Option (List Nat)) (kn : Nat → List Nat) (k : Nat) : List Nat := (w k).getD [] ++ [32] ++ kn k
def textI (w : Nat → Option (List Nat)) (kn : Nat → List Nat) (ks : List Nat) : List Nat := if ks = [] then nothingL else TL.joinL [32, 43, 32] (ks.map (itemT w kn))
/-- the kinds that have a word -/
def hasW (n : Nat) (w : Nat → Option (List Nat)) : List Nat := (List.range n).filter fun k => (w k).isSome
variable {n : Nat} {w : Nat → Option (List Nat)} {kn : Nat → List Nat} {ks : List Nat}
def kindsD (n : Nat) (kn : Nat → List Nat) : List D := (List.range n).map fun k => tD (kn k)
theorem item_len (W : Wd6 n w kn) {k : Nat} (hk : k < n) : (itemT w kn k).length ≤ 113 := by
  unfold itemT
  rw [List.length_append, List.length_append]
  have h1 := (W.kok k hk).len.2
  have h2 : ((w k).getD []).length ≤ 100 := by
    cases e : w k with
    | none => exact Nat.zero_le _
    | some l => exact (W.wok k hk l e).2.1
  simp only [List.length_cons, List.length_nil]
  omega
theorem sumL_le {m B : Nat} : ∀ {ls : List (List Nat)}, (∀ l ∈ ls, l.length ≤ B) → sumL m ls ≤ ls.length * (B + m)
  | [], _ => by unfold sumL; simp
  | l :: ls, h => by
    have h1 := sumL_le (m := m) fun x hx => h x (List.mem_cons_of_mem l hx)
    have h2 := h l List.mem_cons_self
    unfold sumL at h1 ⊢
    rw [List.map_cons, List.sum_cons, List.length_cons, Nat.add_mul, Nat.add_mul, Nat.one_mul, Nat.one_mul]
    omega
theorem items_sum (W : Wd6 n w kn) (hk : ∀ k ∈ ks, k < n) (hl : ks.length ≤ 6) : sumL 3 (ks.map (itemT w kn)) ≤ 700 := by
  have := sumL_le (m := 3) (B := 113) (ls := ks.map (itemT w kn)) fun l hl => by
    obtain ⟨k, hk', rfl⟩ := List.mem_map.mp hl
    exact item_len W (hk k hk')
  rw [List.length_map] at this
  omega
theorem text_len (W : Wd6 n w kn) (hk : ∀ k ∈ ks, k < n) (hl : ks.length ≤ 6) : (textI w kn ks).length ≤ 700 := by
  unfold textI
  split
  · decide
  · exact Nat.le_trans (joinL_len _) (items_sum W hk hl)
theorem hasW_lt : ∀ k ∈ hasW n w, k < n := fun k hk => List.mem_range.mp (List.mem_filter.mp hk).1
theorem hasW_len : (hasW n w).length ≤ n := by
  unfold hasW
  refine Nat.le_trans (List.length_filter_le _ _) ?_
  rw [List.length_range]
  exact Nat.le_refl _
theorem oD_add (W : Wd6 n w kn) {k : Nat} (hk : k < n) (hs : (w k).isSome = true) : (addR (oD (w k)) (tD [32])).bind (fun x => addR x (tD (kn k))) = R.ret (tD (itemT w kn k)) := by
  obtain ⟨l, e⟩ := Option.isSome_iff_exists.mp hs
  have h1 := (W.kok k hk).len.2
  have h2 := (W.wok k hk l e).2.1
  unfold itemT
  rw [e]
  show (addR (tD l) (tD [32])).bind _ = _
  rw [add_tx (by show l.length + 1 ≤ 1000000; omega), rb, add_tx (by rw [List.length_append]; show l.length + 1 + _ ≤ 1000000; omega)]
  rfl
theorem print_items_eq (W : Wd6 n w kn) : m_print_items (.tuple (kindsD n kn)) (.list ((List.range n).map fun k => oD (w k))) = R.ret (tD (textI w kn (hasW n w))) := by
  have n6 := W.n6
  have hl : (kindsD n kn).length = n := by unfold kindsD; rw [List.length_map, List.length_range]
  unfold m_print_items o_print_items endR0
  simp only [rb, R.bind_assoc, len_t, hl, rng_nat (small62 (show n ≤ 1000 by omega)), lit_sp, lit_plus, lit_nothing]
  rw [rangeL_nat, comp_flt (h := fun t : Nat => PyData.int (t : Int)) (p := fun k => (w k).isSome) (q := fun k => tD (itemT w kn k)) (fun k hk => by
    have hk := List.mem_range.mp hk
    simp only [ix_lst (ix_rng (β := D) hk), rb, isNotN_oD, bool_b]) (fun k hk hs => by
    have hk := List.mem_range.mp hk
    have e2 : ixR (.tuple (kindsD n kn)) (.int (k : Int)) = R.ret (tD (kn k)) := ix_tup (ix_rng (β := D) hk)
    simp only [ix_lst (ix_rng (β := D) hk), rb, e2]
    exact oD_add W hk hs) (by rw [List.length_nil, List.length_range, Nat.zero_add]; exact le_size (by omega))]
  have hh := hasW_len (n := n) (w := w)
  rw [List.nil_append, rb, show List.filter (fun k => (w k).isSome) (List.range n) = hasW n w from rfl]
  simp only [len_l, rb, R.bind_assoc, gt_int, bool_b, List.length_map]
  unfold textI
  by_cases q : hasW n w = []
  · rw [q]
    rw [decide_eq_false (by simp)]
    simp only [Bool.false_eq_true, if_false, if_true, rb]
    rfl
  · have hp : 0 < (hasW n w).length := List.length_pos_iff.mpr q
    rw [decide_eq_true (by omega), if_neg q]
    simp only [if_true, strR_tx, rb]
    have e : (hasW n w).map (fun k => tD (itemT w kn k)) = ((hasW n w).map (itemT w kn)).map tD := by rw [List.map_map]; rfl
    rw [e, join_tx (Nat.le_trans (items_sum W hasW_lt (by omega)) (by decide))]
    rfl
theorem litems_ok (W : Wd6 n w kn) (mix : Bool) : Ok (m_law_items (.tuple (kindsD n kn)) (.list ((List.range n).map fun k => tD ((w k).getD []))) (.bool mix)) fun d => ∃ ks : List Nat, d = tD (textI w kn ks) ∧ ks.Perm (hasW n w) ∧ (mix = false → ks = hasW n w) := by
  have n6 := W.n6
  have hl : (kindsD n kn).length = n := by unfold kindsD; rw [List.length_map, List.length_range]
  unfold m_law_items o_law_items
  refine ok_end ?_
  simp only [rb, R.bind_assoc, len_t, hl, rng_nat (small62 (show n ≤ 1000 by omega)), lit_sp, lit_plus, lit_nothing, lit_nil]
  have hne : ∀ k, k < n → neR (tD ((w k).getD [])) (tD []) = R.ret (.bool (w k).isSome) := fun k hk => by
    cases e : w k with
    | none => exact (ne_tx sg_nil sg_nil).trans rfl
    | some l =>
      obtain ⟨h1, h2, h3⟩ := W.wok k hk l e
      show neR (tD l) (tD []) = _
      rw [ne_tx (fun c hc => by
        rcases h3 c hc with h | h
        · have := alnum_lt h; omega
        · omega) sg_nil, decide_eq_false h1]
      rfl
  rw [rangeL_nat, comp_flt (h := fun t : Nat => PyData.int (t : Int)) (p := fun k => (w k).isSome) (q := fun k => tD (itemT w kn k)) (fun k hk => by
    have hk := List.mem_range.mp hk
    simp only [ix_lst (ix_rng (β := D) hk), rb, hne k hk, bool_b]) (fun k hk hs => by
    have hk := List.mem_range.mp hk
    have e2 : ixR (.tuple (kindsD n kn)) (.int (k : Int)) = R.ret (tD (kn k)) := ix_tup (ix_rng (β := D) hk)
    obtain ⟨l, e⟩ := Option.isSome_iff_exists.mp hs
    have e3 := oD_add W hk hs
    rw [e] at e3
    simp only [ix_lst (ix_rng (β := D) hk), rb, e2]
    rw [e]
    exact e3) (by rw [List.length_nil, List.length_range, Nat.zero_add]; exact le_size (by omega))]
  have hh := hasW_len (n := n) (w := w)
  rw [List.nil_append, rb, show List.filter (fun k => (w k).isSome) (List.range n) = hasW n w from rfl]
  rw [bool_b, rb]
  have itD : ∀ ks : List Nat, ks.map (fun k => tD (itemT w kn k)) = (ks.map (itemT w kn)).map tD := fun ks => by rw [List.map_map]; rfl
  refine ok_seqP' (P := fun d => ∃ ks : List Nat, d = .list (ks.map fun k => tD (itemT w kn k)) ∧ ks.Perm (hasW n w) ∧ (mix = false → ks = hasW n w)) ?_ fun d hd => ?_
  · cases mix with
    | false =>
      simp only [Bool.false_eq_true, if_false]
      exact ok_ret ⟨_, rfl, hasW n w, rfl, List.Perm.refl _, fun _ => rfl⟩
    | true =>
      simp only [if_true]
      simp only [len_l, rb, List.length_map, add_int]
      refine ok_step (draw_pos (by omega)) fun d hd => ?_
      obtain ⟨at', h0, h1, rfl⟩ := hd
      obtain ⟨a, rfl⟩ := Int.eq_ofNat_of_zero_le h0
      have s1 : sliceR (.list ((hasW n w).map fun k => tD (itemT w kn k))) (some (a : Int)) none = R.ret (.list (((hasW n w).drop a).map fun k => tD (itemT w kn k))) := by
        show R.ret (PyData.list (cutD _ (some (a : Int)) none)) = _
        rw [cut_drop, List.map_drop]
      have s2 : sliceR (.list ((hasW n w).map fun k => tD (itemT w kn k))) none (some (a : Int)) = R.ret (.list (((hasW n w).take a).map fun k => tD (itemT w kn k))) := by
        show R.ret (PyData.list (cutD _ none (some (a : Int)))) = _
        rw [cut_take, List.map_take]
      simp only [part_int, rb, s1, s2]
      rw [addl_ok (by rw [List.length_map, List.length_map, List.length_drop, List.length_take]; omega), ← List.map_append]
      simp only [rb]
      have pr : ((hasW n w).drop a ++ (hasW n w).take a).Perm (hasW n w) := by
        have := List.perm_append_comm (l₁ := (hasW n w).drop a) (l₂ := (hasW n w).take a)
        rwa [List.take_append_drop] at this
      refine ok_step (draw_pos (by decide)) fun d hd => ?_
      obtain ⟨q, q0, q1, rfl⟩ := hd
      simp only [eq_int, bool_b, rb]
      by_cases hq : q = 0
      · rw [decide_eq_true hq]
        simp only [if_true]
        simp only [revLR, rb]
        rw [← List.map_reverse]
        exact ok_ret ⟨_, rfl, _, rfl, (List.reverse_perm _).trans pr, fun z => by cases z⟩
      · rw [decide_eq_false hq]
        simp only [Bool.false_eq_true, if_false]
        exact ok_ret ⟨_, rfl, _, rfl, pr, fun z => by cases z⟩
  · obtain ⟨ks, rfl, hp, hm⟩ := hd
    have hlt : ∀ k ∈ ks, k < n := fun k hk => hasW_lt k (hp.mem_iff.mp hk)
    have hlen := hp.length_eq
    have pl : ∀ ks : List Nat, (∀ k ∈ ks, k < n) → Pl 1 (.list (ks.map fun k => tD (itemT w kn k))) := fun ks hks => by
      unfold Pl
      intro x hx
      obtain ⟨k, hk, rfl⟩ := List.mem_map.mp hx
      unfold tD Pl
      refine Sg.lay (l := itemT w kn k) ?_
      unfold itemT
      refine Sg.app (Sg.app (fun c hc => ?_) (by unfold Sg; decide)) (W.kok k (hks k hk)).sg
      cases e : w k with
      | none => rw [e] at hc; cases hc
      | some l =>
        rw [e] at hc
        rcases (W.wok k (hks k hk) l e).2.2 c hc with h | h
        · have := alnum_lt h; omega
        · omega
    have eqn : eqR (.list (ks.map fun k => tD (itemT w kn k))) (.list []) = R.ret (.bool (decide (ks = []))) := by
      by_cases q : ks = []
      · subst q
        rw [decide_eq_true rfl]
        exact eq_yes (k := 1) (pl [] (by simp)) (by decide)
      · rw [decide_eq_false q]
        exact eq_no (k := 1) (pl ks hlt) (pl [] (by simp)) (by decide) fun z => q (by injection z with z; exact List.map_eq_nil_iff.mp z)
    simp only [eqn, rb, bool_b]
    refine ok_mono (P := fun o => o = .rt (tD (textI w kn ks)) ()) ?_ fun o ho => by subst ho; exact ⟨ks, rfl, hp, hm⟩
    unfold textI
    by_cases q : ks = []
    · simp only [q, decide_true, if_true]
      exact ok_ret rfl
    · simp only [q, decide_false, Bool.false_eq_true, if_false, strR_tx, rb]
      rw [itD ks, join_tx (Nat.le_trans (items_sum W hlt (by omega)) (by decide))]
      exact ok_ret rfl
end
/-! Numbers and items read. -/
section
open TL (numL numL_lt numL_step numL_digits numL_ne numL_len spl spl_part1 spl_last1)
variable {n : Nat} {w : Nat → Option (List Nat)} {kn : Nat → List Nat} {ks : List Nat}
theorem sg_num (m : Nat) : Sg (numL m) := fun c hc => by have := numL_digits m c hc; omega
theorem numL_alnum {m c : Nat} (h : c ∈ numL m) : alnum c := .inr (by have := numL_digits m c h; omega)
theorem numL_head0 : ∀ m : Nat, 0 < m → ∀ c r, numL m = c :: r → c ≠ 48 := by
  intro m
  induction m using Nat.strongRecOn with
  | _ m ih =>
    intro hm c r e
    by_cases h : m < 10
    · rw [numL_lt h] at e
      injection e with e1 e2
      omega
    · rw [numL_step (by omega)] at e
      cases q : numL (m / 10) with
      | nil => exact absurd q (numL_ne _)
      | cons d s =>
        rw [q] at e
        injection e with e1 e2
        subst e1
        exact ih (m / 10) (by omega) (by omega) d s q
theorem numL_zero : numL 0 = [48] := numL_lt (by decide)
theorem all_true {α : Type} (l : List α) : allR (.list (l.map fun _ => PyData.bool true)) = R.ret (.bool true) := by
  have e : (l.map fun _ => PyData.bool true) = (l.map fun _ => true).map PyData.bool := by rw [List.map_map]; rfl
  rw [e, all_bools]
  congr 2
  rw [List.all_eq_true]
  intro b hb
  obtain ⟨x, _, rfl⟩ := List.mem_map.mp hb
  rfl
theorem dig_mem {c : Nat} (h : 48 ≤ c ∧ c ≤ 57) : c ∈ digL := by
  have : c = 48 ∨ c = 49 ∨ c = 50 ∨ c = 51 ∨ c = 52 ∨ c = 53 ∨ c = 54 ∨ c = 55 ∨ c = 56 ∨ c = 57 := by omega
  unfold digL
  rcases this with h | h | h | h | h | h | h | h | h | h <;> (subst h; decide)
theorem dig_not {c : Nat} (h : ¬ (48 ≤ c ∧ c ≤ 57)) : c ∉ digL := fun z => by
  unfold digL at z
  simp only [List.mem_cons, List.not_mem_nil, or_false] at z
  omega
/-- a written number, read -/
theorem number_of_num {m most : Nat} (hl : (numL m).length ≤ 40) : m_number_of (tD (numL m)) (.int (most : Int)) = R.ret (if m ≤ most then .int (m : Int) else .none) := by
  have ne := numL_ne m
  have hm : (numL m).length ≤ tMax := Nat.le_trans hl (by decide)
  unfold m_number_of o_number_of endR0
  simp only [rb, R.bind_assoc, lit_nil, lit_dig, lit_zero, eq_tx (sg_num m) sg_nil, bool_b, decide_eq_false ne, Bool.false_eq_true, if_false, len_tx hm, gt_int]
  rw [decide_eq_false (by omega)]
  simp only [Bool.false_eq_true, if_false, items_tx, rb, R.bind_assoc]
  rw [comp_map (h := fun c => tD [c]) (q := fun _ => PyData.bool true) (l := numL m) (fun c hc => by
    rw [in_tx, decide_eq_true (dig_mem (numL_digits m c hc))]) (le_size (by omega))]
  simp only [rb, all_true, bool_b, Bool.not_true, Bool.false_eq_true, if_false]
  obtain ⟨c, r, e⟩ : ∃ c r, numL m = c :: r := by
    cases q : numL m with
    | nil => exact absurd q ne
    | cons c r => exact ⟨c, r, rfl⟩
  have i0 : ixR (tD (numL m)) (.int 0) = R.ret (tD [c]) := ix_tx (i := 0) (by rw [e]; rfl) hm
  have sgc : Sg [c] := fun x hx => by
    rw [List.mem_singleton] at hx
    subst hx
    exact sg_num m x (by rw [e]; exact List.mem_cons_self)
  have fin : ((R.bind (R.bind (R.ret (tD (numL m))) fun x => intT x) fun v_number => R.bind (R.bind (R.bind (R.ret v_number) fun x => R.bind (R.ret (.int (most : Int))) fun y => R.bind (leR x y) boolR) fun x => if x = true then (R.ret v_number) else (R.ret .none)) fun d => R.ret (Out.rt d ())) : R (Out Unit Empty Unit)).bind outD = R.ret (if m ≤ most then .int (m : Int) else .none) := by
    simp only [rb, intT_num (Nat.le_trans hl (by decide)), le_int, bool_b]
    by_cases q : m ≤ most
    · rw [decide_eq_true (by omega), if_pos q]; rfl
    · rw [decide_eq_false (by omega), if_neg q]; rfl
  simp only [rb, R.bind_assoc] at fin
  simp only [i0, rb, eq_tx sgc (show Sg [48] by unfold Sg; decide), bool_b]
  by_cases q : m = 0
  · subst q
    rw [numL_zero] at e
    injection e with e1 e2
    subst e1 e2
    simp only [decide_true, if_true]
    rw [show ((numL 0).length : Int) = 1 by rw [numL_zero]; rfl]
    rw [decide_eq_false (by decide)]
    simp only [rb, Bool.false_eq_true, if_false, R.bind_assoc]
    exact fin
  · have : [c] ≠ [48] := fun z => numL_head0 m (by omega) c r e (by injection z)
    rw [decide_eq_false this]
    simp only [rb, Bool.false_eq_true, if_false, R.bind_assoc]
    exact fin
theorem len2 {x y : D} : lenR (.list [x, y]) = R.ret (.int 2) := Eq.trans rfl rfl
/-! the items of a text -/
def kvI (w : Nat → Option (List Nat)) (kn : Nat → List Nat) (ks : List Nat) : List (L2.Key × D) := ks.map fun k => (.inr (tx (kn k)), tD ((w k).getD []))
theorem val_kvI (ks : List Nat) {k : Nat} (hinj : ∀ j ∈ ks, kn j = kn k → j = k) : valD (kvI w kn ks) (.inr (tx (kn k))) = if k ∈ ks then some (tD ((w k).getD [])) else none := by
  induction ks with
  | nil => simp [kvI, valD]
  | cons j r ih =>
    have ih := ih fun i hi => hinj i (List.mem_cons_of_mem _ hi)
    unfold kvI valD at ih ⊢
    rw [List.map_cons]
    by_cases e : j = k
    · subst e
      rw [List.find?_cons_of_pos (by simp)]
      simp
    · have ne : ¬ ((Sum.inr (tx (kn j)) : L2.Key) = Sum.inr (tx (kn k))) := fun z => by
        injection z with z
        exact e (hinj j List.mem_cons_self (tx_inj.mp z))
      rw [List.find?_cons_of_neg (by simpa using ne), ih]
      have : (k ∈ j :: r) ↔ k ∈ r := ⟨fun z => (List.mem_cons.mp z).elim (fun q => absurd q.symm e) id, List.mem_cons_of_mem _⟩
      by_cases q : k ∈ r
      · rw [if_pos q, if_pos (this.mpr q)]
      · rw [if_neg q, if_neg fun z => q (this.mp z)]
theorem in_txs {a : List Nat} {ls : List (List Nat)} : inR (tD a) (.tuple (ls.map tD)) = R.ret (.bool (decide (a ∈ ls))) := by
  have h : (flatD (tD a) && (ls.map tD).all flatD) = true := by
    rw [List.all_map]
    exact List.all_eq_true.mpr fun _ _ => rfl
  simp only [inR, h, if_true]
  congr 2
  unfold inB
  rw [List.any_map]
  apply Bool.eq_iff_iff.mpr
  rw [List.any_eq_true, decide_eq_true_iff]
  constructor
  · rintro ⟨x, hx, q⟩
    have q : (tx x == tx a) = true := q
    rw [← tx_inj.mp (eq_of_beq q)]; exact hx
  · intro hx
    exact ⟨a, hx, by show (tx a == tx a) = true; exact beq_self_eq_true _⟩
theorem nin_txs {a : List Nat} {ls : List (List Nat)} : ninR (tD a) (.tuple (ls.map tD)) = R.ret (.bool (!decide (a ∈ ls))) := by unfold ninR; rw [in_txs, rb, not_b]
theorem kindsD_map : kindsD n kn = ((List.range n).map kn).map tD := by unfold kindsD; rw [List.map_map]; rfl
theorem wordfree (W : Wd6 n w kn) {k : Nat} (hk : k < n) {s : Nat} (hs : s < 46 ∨ s = 47 ∨ s = 58 ∨ s = 59 ∨ s = 62) : s ∉ (w k).getD [] := by
  cases e : w k with
  | none => exact fun z => by cases z
  | some l =>
    intro z
    rcases (W.wok k hk l e).2.2 s z with h | h
    · have := alnum_lt h; omega
    · omega
theorem itemfree (W : Wd6 n w kn) {k : Nat} (hk : k < n) {s : Nat} (hs : s < 32 ∨ (32 < s ∧ s < 46) ∨ s = 47 ∨ s = 58 ∨ s = 59 ∨ s = 62) : s ∉ itemT w kn k := by
  unfold itemT
  intro z
  rcases List.mem_append.mp z with z | z
  · rcases List.mem_append.mp z with z | z
    · exact wordfree W hk (by omega) z
    · rw [List.mem_singleton] at z; omega
  · exact (W.kok k hk).free (by omega) z
theorem joinfree {S : List Nat} {s : Nat} (hS : s ∉ S) : ∀ {ls : List (List Nat)}, (∀ l ∈ ls, s ∉ l) → s ∉ TL.joinL S ls
  | [], _ => fun z => by cases z
  | [p], h => h p List.mem_cons_self
  | p :: q :: r, h => fun z => by
    unfold TL.joinL at z
    rcases List.mem_append.mp z with z | z
    · exact h p List.mem_cons_self z
    · rcases List.mem_append.mp z with z | z
      · exact hS z
      · exact joinfree hS (fun l hl => h l (List.mem_cons_of_mem _ hl)) z
theorem textfree (W : Wd6 n w kn) (hk : ∀ k ∈ ks, k < n) {s : Nat} (hs : s < 32 ∨ (32 < s ∧ s < 43) ∨ s = 44 ∨ s = 45 ∨ s = 47 ∨ s = 58 ∨ s = 59 ∨ s = 62) : s ∉ textI w kn ks := by
  unfold textI
  split
  · intro z
    unfold nothingL at z
    simp only [List.mem_cons, List.not_mem_nil, or_false] at z
    omega
  · refine joinfree (by simp only [List.mem_cons, List.not_mem_nil, or_false]; omega) fun l hl => ?_
    obtain ⟨k, hk', rfl⟩ := List.mem_map.mp hl
    exact itemfree W (hk k hk') (by omega)
theorem join_mem {S : List Nat} : ∀ {ls : List (List Nat)} {l : List Nat}, l ∈ ls → ∀ c ∈ l, c ∈ TL.joinL S ls
  | [p], l, h, c, hc => by rw [List.mem_singleton] at h; subst h; exact hc
  | p :: q :: r, l, h, c, hc => by
    unfold TL.joinL
    rcases List.mem_cons.mp h with rfl | h
    · exact List.mem_append_left _ hc
    · exact List.mem_append_right _ (List.mem_append_right _ (join_mem h c hc))
theorem text_ne (hq : ks ≠ []) : textI w kn ks ≠ nothingL := fun z => by
  unfold textI at z
  rw [if_neg hq] at z
  obtain ⟨k, hk⟩ := List.exists_mem_of_ne_nil ks hq
  have : 32 ∈ TL.joinL [32, 43, 32] (ks.map (itemT w kn)) := join_mem (l := itemT w kn k) (List.mem_map.mpr ⟨k, hk, rfl⟩) 32 (by unfold itemT; simp)
  rw [z] at this
  exact absurd this (by decide)
theorem sg_text (W : Wd6 n w kn) (hk : ∀ k ∈ ks, k < n) : Sg (textI w kn ks) := by
  unfold textI
  split
  · exact sg_nothing
  · have : ∀ ls : List (List Nat), (∀ l ∈ ls, Sg l) → Sg (TL.joinL [32, 43, 32] ls) := fun ls => by
      induction ls with
      | nil => exact fun _ => sg_nil
      | cons p r ih =>
        intro h
        cases r with
        | nil => exact h p List.mem_cons_self
        | cons q r => exact (h p List.mem_cons_self).app (Sg.app (by unfold Sg; decide) (ih fun l hl => h l (List.mem_cons_of_mem _ hl)))
    refine this _ fun l hl => ?_
    obtain ⟨k, hk', rfl⟩ := List.mem_map.mp hl
    unfold itemT
    refine Sg.app (Sg.app (fun c hc => ?_) (by unfold Sg; decide)) (W.kok k (hk k hk')).sg
    cases e : w k with
    | none => rw [e] at hc; cases hc
    | some l =>
      rw [e] at hc
      rcases (W.wok k (hk k hk') l e).2.2 c hc with h | h
      · have := alnum_lt h; omega
      · omega
theorem read_items_eq (W : Wd6 n w kn) (hk : ∀ k ∈ ks, k < n) (hn : ks.Nodup) (hl : ks.length ≤ 6) : m_read_items (.tuple (kindsD n kn)) (tD (textI w kn ks)) = R.ret (encC (.k (kvI w kn ks))) := by
  unfold m_read_items o_read_items endR0
  simp only [rb, R.bind_assoc, lit_nothing, lit_plus, lit_sp, eq_tx (sg_text W hk) sg_nothing, bool_b]
  by_cases q : ks = []
  · subst q
    rw [decide_eq_true (show textI w kn [] = nothingL from rfl)]
    simp only [if_true]
    rfl
  · rw [decide_eq_false (text_ne q)]
    simp only [Bool.false_eq_true, if_false, strR_tx, rb]
    rw [split_tx (by simp) (by unfold Sg; decide) (by have := text_len W hk hl; unfold tMax; omega)]
    have es : spl [32, 43, 32] 0 [] (textI w kn ks) = ks.map (itemT w kn) := by
      unfold textI
      rw [if_neg q]
      refine spl_join2 (S := [32]) (by decide) (fun z => q (List.map_eq_nil_iff.mp z)) fun p hp => ?_
      obtain ⟨k, hk', rfl⟩ := List.mem_map.mp hp
      exact itemfree W (hk k hk') (by omega)
    simp only [rb, es, items_l, List.map_map]
    have key : ∀ (rest done : List Nat), done ++ rest = ks → ∀ f : D → List (L2.Key × D) → R (Out (List (L2.Key × D)) (List (L2.Key × D)) Unit), (∀ k pre, k ∈ ks → k ∉ pre → (∀ j ∈ pre, j ∈ ks) → pre.length ≤ 6 → f (tD (itemT w kn k)) (kvI w kn pre) = R.ret (.nx (kvI w kn (pre ++ [k])))) →
        (forR f (rest.map (tD ∘ itemT w kn)) (kvI w kn done) : R (Out (List (L2.Key × D)) Empty Unit)) = R.ret (.nx (kvI w kn ks)) := by
      intro rest
      induction rest with
      | nil =>
        intro done e f _
        rw [List.append_nil] at e
        rw [e]
        rfl
      | cons k rest ih =>
        intro done e f hf
        rw [List.map_cons]
        unfold forR
        have hk1 : k ∈ ks := by rw [← e]; simp
        have hd : ∀ j ∈ done, j ∈ ks := fun j hj => by rw [← e]; exact List.mem_append_left _ hj
        have hnot : k ∉ done := by
          rw [← e, List.nodup_append] at hn
          exact fun z => hn.2.2 k z k List.mem_cons_self rfl
        have hdl : done.length ≤ 6 := by
          have := congrArg List.length e
          rw [List.length_append] at this
          omega
        show (f (tD (itemT w kn k)) (kvI w kn done)).bind _ = _
        rw [hf k done hk1 hnot hd hdl]
        simp only [rb]
        exact ih (done ++ [k]) (by rw [List.append_assoc]; exact e) f hf
    refine (congrArg (fun r => (seqR r _).bind outD) (key ks [] rfl _ fun k pre hk1 hnot hpre hpl => ?_)).trans rfl
    have hkn := hk k hk1
    have sp2 : spl [32] 0 [] (itemT w kn k) = [(w k).getD [], kn k] := by
      unfold itemT
      rw [List.append_assoc, show [32] ++ kn k = [32] ++ kn k from rfl]
      rw [spl_part1 (S := []) (wordfree W hkn (by omega)), List.nil_append, spl_last1 ((W.kok k hkn).free (by omega)), List.nil_append]
    have hil := item_len W hkn
    simp only [rb, strR_tx, split_tx (S := [32]) (by simp) (by unfold Sg; decide) (show (itemT w kn k).length + 2 ≤ tMax by unfold tMax; omega), sp2, List.map_cons, List.map_nil, len2, ne_int, bool_b, decide_true, Bool.not_true, Bool.false_eq_true, if_false]
    have i0 : ixR (.list [tD ((w k).getD []), tD (kn k)]) (.int 0) = R.ret (tD ((w k).getD [])) := ix_lst (k := 0) rfl
    have i1 : ixR (.list [tD ((w k).getD []), tD (kn k)]) (.int 1) = R.ret (tD (kn k)) := ix_lst (k := 1) rfl
    have hin : kn k ∈ (List.range n).map kn := List.mem_map.mpr ⟨k, List.mem_range.mpr hkn, rfl⟩
    have hv := val_kvI (w := w) (kn := kn) pre (k := k) fun j hj e => W.kinj j k (hk j (hpre j hj)) hkn e
    rw [if_neg hnot] at hv
    have hdin : dinR (.k (kvI w kn pre)) (tD (kn k)) = R.ret (.bool false) := by
      show (match some (valD (kvI w kn pre) (.inr (tx (kn k)))) with | some o => R.ret (PyData.bool o.isSome) | _ => bad) = _
      rw [hv]
      rfl
    have hput : dputK (kvI w kn pre) (tD (kn k)) (tD ((w k).getD [])) = R.ret (kvI w kn (pre ++ [k])) := by
      show (if (kvI w kn pre).length < sizeLine then R.ret (putD (kvI w kn pre) (.inr (tx (kn k))) (tD ((w k).getD []))) else bad) = _
      rw [if_pos (by unfold kvI; rw [List.length_map]; exact Nat.lt_of_le_of_lt hpl (by decide))]
      unfold putD
      rw [hv, if_neg (by decide)]
      unfold kvI
      rw [List.map_append]
      rfl
    simp only [Bool.not_true, Bool.false_eq_true, if_false, i0, i1, rb, kindsD_map, nin_txs, decide_eq_true hin, hdin, bool_b, hput]
end
/-! Stocks and what moves give: printed and read. -/
section
open TL (numL numL_lt numL_step numL_digits numL_ne numL_len numL_inj spl spl_part1 spl_last1)
variable {n : Nat} {w : Nat → Option (List Nat)} {kn : Nat → List Nat} {ks : List Nat} {e lo hi : Nat → Int}
def big30 : Nat := 1000000000000000000000000000000
/-- the word of an entry -/
def wordF (z : Int) : Option (List Nat) := if z = -1 then some endlessL else if z ≤ 0 then none else some (numL z.toNat)
theorem num_len {m : Nat} (h : m ≤ big30) : (numL m).length ≤ 31 := numL_len (by decide) (Nat.lt_of_le_of_lt h (by decide))
theorem wordF_pos {m : Nat} (h : 0 < m) : wordF (m : Int) = some (numL m) := by
  unfold wordF
  rw [if_neg (by omega), if_neg (by omega), Int.toNat_natCast]
theorem wordF_wok {z : Int} (h : z ≤ (big30 : Nat)) : ∀ l, wordF z = some l → l ≠ [] ∧ l.length ≤ 100 ∧ ∀ c ∈ l, alnum c ∨ c = 46 := by
  intro l hl
  unfold wordF at hl
  split at hl
  · injection hl with hl
    subst hl
    exact ⟨by decide, by decide, fun c hc => .inl (.inl (by unfold low; revert c; decide))⟩
  · split at hl
    · cases hl
    · injection hl with hl
      subst hl
      exact ⟨numL_ne _, Nat.le_trans (num_len (by omega)) (by decide), fun c hc => .inl (numL_alnum hc)⟩
theorem num_sg_eq {z : Int} (h0 : 0 ≤ z) (h : z ≤ (big30 : Nat)) : strI (.int z) = R.ret (tD (numL z.toNat)) := by
  have := strI_num (n := z.toNat) (Nat.lt_of_le_of_lt (show z.toNat ≤ big30 by omega) (by decide))
  rwa [Int.toNat_of_nonneg h0] at this
theorem written_eq {z : Int} (h0 : -1 ≤ z) (h : z ≤ (big30 : Nat)) : m_written (.int z) = R.ret (oD (wordF z)) := by
  unfold m_written o_written endR0 wordF
  simp only [rb, R.bind_assoc, lit_endless, neg_int, eq_int, bool_b]
  by_cases q : z = -1
  · simp only [q, decide_true, if_true]; rfl
  · simp only [q, decide_false, Bool.false_eq_true, if_false, rb, gt_int, bool_b]
    by_cases q2 : z ≤ 0
    · rw [decide_eq_false (by omega), if_pos q2]; rfl
    · rw [decide_eq_true (by omega), if_neg q2]
      simp only [if_true, num_sg_eq (show 0 ≤ z by omega) h, rb]
      rfl
theorem lword_eq {z : Int} (h0 : -1 ≤ z) (h : z ≤ (big30 : Nat)) : m_law_word (.int z) = R.ret (tD ((wordF z).getD [])) := by
  unfold m_law_word o_law_word endR0 wordF
  simp only [rb, R.bind_assoc, lit_endless, lit_nil, neg_int, eq_int, bool_b]
  by_cases q : z = -1
  · simp only [q, decide_true, if_true]; rfl
  · simp only [q, decide_false, Bool.false_eq_true, if_false, rb, eq_int, bool_b]
    by_cases q2 : z = 0
    · simp only [q2, decide_true, if_true]; rfl
    · rw [decide_eq_false q2, if_neg (show ¬ z ≤ 0 by omega)]
      simp only [Bool.false_eq_true, if_false, num_sg_eq (show 0 ≤ z by omega) h, rb]
      rfl
/-- entries that can be written -/
structure Ent (n : Nat) (e : Nat → Int) (most : Nat) (en : Bool) : Prop where
  e0 : ∀ k, k < n → -1 ≤ e k
  e1 : ∀ k, k < n → e k ≤ (most : Int)
  eb : most ≤ big30
  en : ∀ k, k < n → e k = -1 → en = true
/-- the names of kinds -/
structure Kn6 (n : Nat) (kn : Nat → List Nat) : Prop where
  n6 : n ≤ 6
  kok : ∀ k, k < n → NmOk (kn k)
  kinj : ∀ j k, j < n → k < n → kn j = kn k → j = k
theorem Kn6.wd {most : Nat} {en : Bool} (K : Kn6 n kn) (E : Ent n e most en) : Wd6 n (fun k => wordF (e k)) kn :=
  ⟨K.n6, K.kok, K.kinj, fun k hk l hl => wordF_wok (by have := E.e1 k hk; have := E.eb; omega) l hl⟩
theorem print_stock_eq {b : Bk} {most : Nat} {en : Bool} (hb : b.names = kindsD b.n kn) (K : Kn6 b.n kn) (E : Ent b.n e most en) : m_print_stock b.d (vec b.n e) = R.ret (tD (textI (fun k => wordF (e k)) kn (hasW b.n fun k => wordF (e k)))) := by
  have n6 := K.n6
  unfold m_print_stock o_print_stock endR0
  have i0 : ixR b.d (.int 0) = R.ret (.tuple (kindsD b.n kn)) := by unfold Bk.d; rw [hb]; exact ix0
  simp only [rb, R.bind_assoc, i0, items_vec]
  rw [comp_vec (g := fun k => oD (wordF (e k))) (le_size (by omega)) fun k hk => written_eq (E.e0 k hk) (by have := E.e1 k hk; have := E.eb; omega)]
  simp only [rb, print_items_eq (K.wd E)]
  rfl
theorem lstock_ok {most : Nat} {en : Bool} (K : Kn6 n kn) (E : Ent n e most en) (mix : Bool) : Ok (m_law_stock_text (.tuple (kindsD n kn)) (vec n e) (.bool mix)) fun d => ∃ ks : List Nat, d = tD (textI (fun k => wordF (e k)) kn ks) ∧ ks.Perm (hasW n fun k => wordF (e k)) ∧ (mix = false → ks = hasW n fun k => wordF (e k)) := by
  have n6 := K.n6
  unfold m_law_stock_text o_law_stock_text
  refine ok_end ?_
  simp only [rb, R.bind_assoc, items_vec]
  rw [comp_vec (g := fun k => tD ((wordF (e k)).getD [])) (le_size (by omega)) fun k hk => lword_eq (E.e0 k hk) (by have := E.e1 k hk; have := E.eb; omega)]
  simp only [rb]
  refine ok_step (litems_ok (K.wd E) mix) fun d hd => ?_
  exact ok_ret hd
theorem seq_nx {S S' B T : Type} {s : S} {f : S → R (Out S' B T)} : seqR (R.ret (.nx s)) f = f s := Eq.trans rfl rfl
theorem asKN_k {α : Type} {kvs : List (L2.Key × D)} {g : R α} {f : List (L2.Key × D) → R α} : asKN (encC (.k kvs)) g f = f kvs := by
  have : asKN (encC (.k kvs)) g f = asK (encC (.k kvs)) f := rfl
  rw [this]
  unfold asK encC
  simp only [decK_encK]
theorem forR_eq {S B T : Type} {h : Nat → D} {enc : List Nat → S} {f : D → S → R (Out S S T)} {ks : List Nat} (hf : ∀ k pre, k ∈ ks → (∃ post, ks = pre ++ k :: post) → f (h k) (enc pre) = R.ret (.nx (enc (pre ++ [k])))) : ∀ (rest done : List Nat), done ++ rest = ks → (forR f (rest.map h) (enc done) : R (Out S B T)) = R.ret (.nx (enc ks))
  | [], done, e => by
    rw [List.append_nil] at e
    rw [e]
    rfl
  | k :: rest, done, e => by
    rw [List.map_cons]
    unfold forR
    rw [hf k done (by rw [← e]; simp) ⟨rest, e.symm⟩]
    simp only [rb]
    exact forR_eq hf rest (done ++ [k]) (by rw [List.append_assoc]; exact e)
theorem mem_hasW {k : Nat} (hp : ks.Perm (hasW n w)) : k ∈ ks ↔ k < n ∧ (w k).isSome = true := by
  rw [hp.mem_iff]
  unfold hasW
  rw [List.mem_filter, List.mem_range]
theorem hasW_nodup : (hasW n w).Nodup := List.Nodup.sublist List.filter_sublist List.nodup_range
theorem dget1_kv (W : Wd6 n w kn) (hp : ks.Perm (hasW n w)) {k : Nat} (hk : k < n) : dget1R (.k (kvI w kn ks)) (tD (kn k)) = R.ret (oD (w k)) := by
  have hv := val_kvI (w := w) (kn := kn) ks (k := k) fun j hj e => W.kinj j k ((mem_hasW hp).mp hj).1 hk e
  show (match some (valD (kvI w kn ks) (.inr (tx (kn k)))) with | some o => R.ret (o.getD .none) | _ => bad) = _
  rw [hv]
  cases q : w k with
  | none =>
    rw [if_neg fun z => by have := ((mem_hasW hp).mp z).2; rw [q] at this; cases this]
    rfl
  | some l =>
    rw [if_pos ((mem_hasW hp).mpr ⟨hk, by rw [q]; rfl⟩)]
    rfl
theorem eq_oD {o : Option (List Nat)} {l : List Nat} (ho : ∀ x, o = some x → Sg x) (hl : Sg l) : eqR (oD o) (tD l) = R.ret (.bool (decide (o = some l))) := by
  cases o with
  | none =>
    rw [decide_eq_false (by simp)]
    exact eq_no (k := 0) pl_none (by unfold tD Pl; exact hl.lay) (by decide) (by intro z; cases z)
  | some x =>
    show eqR (tD x) (tD l) = _
    rw [eq_tx (ho x rfl) hl]
    congr 2
    exact decide_eq_decide.mpr ⟨fun z => by rw [z], fun z => by injection z⟩
theorem sg_word (W : Wd6 n w kn) {k : Nat} (hk : k < n) : ∀ l, w k = some l → Sg l := fun l h c hc => by
  rcases (W.wok k hk l h).2.2 c hc with z | z
  · have := alnum_lt z; omega
  · omega
theorem num_ne_endless (m : Nat) : numL m ≠ endlessL := fun z => by
  have := numL_digits m 101 (by rw [z]; decide)
  omega
theorem entries_of_eq {most : Nat} {en : Bool} (K : Kn6 n kn) (E : Ent n e most en) (hp : ks.Perm (hasW n fun k => wordF (e k))) : m_entries_of (.tuple (kindsD n kn)) (tD (textI (fun k => wordF (e k)) kn ks)) (.int (most : Int)) (.bool en) = R.ret (vec n e) := by
  have W := K.wd E
  have n6 := K.n6
  have hlt : ∀ k ∈ ks, k < n := fun k hk => ((mem_hasW hp).mp hk).1
  have hlen : ks.length ≤ 6 := by have := hp.length_eq; have := hasW_len (n := n) (w := fun k => wordF (e k)); omega
  unfold m_entries_of o_entries_of endR0
  simp only [rb, R.bind_assoc, read_items_eq W hlt (hp.nodup_iff.mpr hasW_nodup) hlen, lit_endless]
  rw [asKN_k]
  simp only [rb, Bool.false_eq_true, if_false, items_t]
  unfold kindsD
  refine (congrArg (fun r => (seqR r _).bind outD) (forR_eq (h := fun k => tD (kn k)) (enc := fun pre : List Nat => pre.map fun k => PyData.int (e k)) (ks := List.range n) (fun k pre hk hpre => ?_) (List.range n) [] rfl)).trans ?_
  · have hk := List.mem_range.mp hk
    have hpl : pre.length ≤ 6 := by
      obtain ⟨post, hpost⟩ := hpre
      have := congrArg List.length hpost
      rw [List.length_range, List.length_append] at this
      omega
    have h0 := E.e0 k hk
    have h1 := E.e1 k hk
    have heb := E.eb
    have app : ∀ z : Int, z = e k → appR (pre.map fun k => PyData.int (e k)) (.int z) = R.ret ((pre ++ [k]).map fun k => PyData.int (e k)) := fun z hz => by
      rw [app_ok (by rw [List.length_map]; omega), List.map_append, hz]
      rfl
    simp only [dget1_kv W hp hk, rb, eq_oD (sg_word W hk) sg_endless, bool_b, isNotN_oD]
    by_cases q : e k = -1
    · have ew : wordF (e k) = some endlessL := by unfold wordF; rw [if_pos q]
      simp only [ew, decide_true, if_true, E.en k hk q, rb, neg_int]
      simp only [seq_nx, rb, app (-1) q.symm]
    · have ne : ¬ wordF (e k) = some endlessL := fun z => by
        unfold wordF at z
        rw [if_neg q] at z
        split at z
        · cases z
        · injection z with z
          exact num_ne_endless _ z
      simp only [decide_eq_false ne, Bool.false_eq_true, if_false, rb]
      by_cases q2 : e k = 0
      · have ew : wordF (e k) = none := by unfold wordF; rw [if_neg q, if_pos (by omega)]
        simp only [ew, Option.isSome_none, Bool.false_eq_true, if_false]
        simp only [seq_nx, rb, app 0 q2.symm]
      · obtain ⟨m, hm⟩ : ∃ m : Nat, e k = (m : Int) := ⟨(e k).toNat, by omega⟩
        have ew : wordF (e k) = some (numL m) := by rw [hm]; exact wordF_pos (by omega)
        have nr : m_number_of (tD (numL m)) (.int (most : Int)) = R.ret (.int (m : Int)) := by
          rw [number_of_num (Nat.le_trans (num_len (by omega)) (by decide)), if_pos (by omega)]
        have isn : isR (PyData.int (m : Int)) .none = R.ret (.bool false) := rfl
        simp only [ew, Option.isSome_some, if_true, oD, nr, rb, isn, bool_b, Bool.false_eq_true, if_false, eq_int]
        rw [decide_eq_false (by omega)]
        simp only [Bool.false_eq_true, if_false]
        simp only [seq_nx, rb, app (m : Int) hm.symm]
  · simp only [seq_nx, tuple_l, rb]
    rfl
end
/-! Ranges, names, moves. -/
section
open TL (numL numL_lt numL_step numL_digits numL_ne numL_len numL_inj spl spl_part spl_last spl_part1 spl_last1)
variable {n : Nat} {w : Nat → Option (List Nat)} {kn : Nat → List Nat} {ks : List Nat} {e lo hi : Nat → Int}
/-- the word of a range -/
def rngF (l h : Int) : Option (List Nat) := if h = 0 then none else if l = h then some (numL h.toNat) else some (numL l.toNat ++ [46, 46] ++ numL h.toNat)
theorem num_len3 {m : Nat} (h : m ≤ 1000) : (numL m).length ≤ 4 := numL_len (by decide) (by omega)
theorem rngF_wok {l h : Int} (h0 : 0 ≤ l) (h1 : l ≤ h) (h2 : h ≤ 1000) : ∀ x, rngF l h = some x → x ≠ [] ∧ x.length ≤ 100 ∧ ∀ c ∈ x, alnum c ∨ c = 46 := by
  intro x hx
  have a1 := num_len3 (show l.toNat ≤ 1000 by omega)
  have a2 := num_len3 (show h.toNat ≤ 1000 by omega)
  unfold rngF at hx
  split at hx
  · cases hx
  · split at hx
    · injection hx with hx
      subst hx
      exact ⟨numL_ne _, by omega, fun c hc => .inl (numL_alnum hc)⟩
    · injection hx with hx
      subst hx
      refine ⟨by simp [numL_ne], by simp only [List.length_append, List.length_cons, List.length_nil]; omega, fun c hc => ?_⟩
      rcases List.mem_append.mp hc with hc | hc
      · rcases List.mem_append.mp hc with hc | hc
        · exact .inl (numL_alnum hc)
        · exact .inr (by simpa using hc)
      · exact .inl (numL_alnum hc)
theorem print_range_eq {l h : Int} (h0 : 0 ≤ l) (h1 : l ≤ h) (h2 : h ≤ 1000) : m_print_range (.int l) (.int h) = R.ret (oD (rngF l h)) := by
  have hb : h ≤ (big30 : Nat) := Int.le_trans h2 (by decide)
  have a1 := num_len3 (show l.toNat ≤ 1000 by omega)
  have a2 := num_len3 (show h.toNat ≤ 1000 by omega)
  unfold m_print_range o_print_range endR0 rngF
  simp only [rb, R.bind_assoc, eq_int, bool_b, lit_dots]
  by_cases q : h = 0
  · subst q
    simp only [decide_true, if_true, rb, written_eq (show (-1 : Int) ≤ 0 by decide) hb]
    rfl
  · rw [if_neg q]
    simp only [decide_eq_false q, Bool.false_eq_true, if_false, rb]
    by_cases q2 : l = h
    · subst q2
      have ew : wordF l = some (numL l.toNat) := by unfold wordF; rw [if_neg (by omega), if_neg (by omega)]
      simp only [decide_true, if_true, rb, written_eq (show (-1 : Int) ≤ l by omega) hb, ew]
      rfl
    · rw [if_neg q2]
      simp only [decide_eq_false q2, Bool.false_eq_true, if_false, rb, num_sg_eq h0 (Int.le_trans h1 hb), num_sg_eq (Int.le_trans h0 h1) hb]
      rw [add_tx (by show _ + 2 ≤ 1000000; omega), rb, add_tx (by rw [List.length_append]; show _ + 2 + _ ≤ 1000000; omega)]
      rfl
theorem lrange_eq {l h : Int} (h0 : 0 ≤ l) (h1 : l ≤ h) (h2 : h ≤ 1000) : m_law_range (.int l) (.int h) = R.ret (tD ((rngF l h).getD [])) := by
  have hb : h ≤ (big30 : Nat) := Int.le_trans h2 (by decide)
  have a1 := num_len3 (show l.toNat ≤ 1000 by omega)
  have a2 := num_len3 (show h.toNat ≤ 1000 by omega)
  unfold m_law_range o_law_range endR0 rngF
  simp only [rb, R.bind_assoc, eq_int, bool_b, lit_dots, lit_nil]
  by_cases q : h = 0
  · subst q
    simp only [decide_true, if_true, rb]
    rfl
  · rw [if_neg q]
    simp only [decide_eq_false q, Bool.false_eq_true, if_false, rb, eq_int, bool_b]
    by_cases q2 : l = h
    · subst q2
      simp only [decide_true, if_true, rb, num_sg_eq h0 hb]
      rfl
    · rw [if_neg q2]
      simp only [decide_eq_false q2, Bool.false_eq_true, if_false, rb, num_sg_eq h0 (Int.le_trans h1 hb), num_sg_eq (Int.le_trans h0 h1) hb]
      rw [add_tx (by show _ + 2 ≤ 1000000; omega), rb, add_tx (by rw [List.length_append]; show _ + 2 + _ ≤ 1000000; omega)]
      rfl
theorem nums_1000 {m : Nat} (h : m ≤ 1000) : m_number_of (tD (numL m)) (.int 1000) = R.ret (.int (m : Int)) := by
  have := number_of_num (m := m) (most := 1000) (Nat.le_trans (num_len3 h) (by decide))
  rw [if_pos h] at this
  exact this
theorem range_of_eq {l h : Int} (h0 : 0 ≤ l) (h1 : l ≤ h) (h2 : h ≤ 1000) {x : List Nat} (hx : rngF l h = some x) : m_range_of (tD x) = R.ret (.tuple [.int l, .int h]) := by
  have wl := (rngF_wok h0 h1 h2 x hx).2.1
  obtain ⟨a, rfl⟩ := Int.eq_ofNat_of_zero_le h0
  obtain ⟨b, rfl⟩ := Int.eq_ofNat_of_zero_le (Int.le_trans h0 h1)
  have f46 : ∀ m : Nat, 46 ∉ numL m := fun m => TL.numL_free (by omega)
  unfold rngF at hx
  by_cases q : (b : Int) = 0
  · rw [if_pos q] at hx; cases hx
  rw [if_neg q] at hx
  unfold m_range_of o_range_of endR0
  simp only [rb, R.bind_assoc, lit_dots, strR_tx, split_tx (S := [46, 46]) (by simp) (by unfold Sg; decide) (show x.length + 2 ≤ tMax by unfold tMax; omega)]
  by_cases q2 : (a : Int) = (b : Int)
  · rw [if_pos q2] at hx
    injection hx with hx
    subst hx
    have ab : a = b := by omega
    subst ab
    rw [Int.toNat_natCast, spl_last1 (f46 a), List.nil_append]
    have i0 : ixR (.list [PyData.int (a : Int)]) (.int 0) = R.ret (.int (a : Int)) := ix_lst (k := 0) rfl
    have i1 : ixR (.list [PyData.int (a : Int)]) (.int (-1)) = R.ret (.int (a : Int)) := Eq.trans rfl rfl
    have l1 : lenR (.list [tD (numL a)]) = R.ret (.int 1) := Eq.trans rfl rfl
    have nn : inR .none (.list [PyData.int (a : Int)]) = R.ret (.bool false) := Eq.trans rfl rfl
    have c1 : compR (fun _ => R.ret true) (fun v_part => m_number_of v_part (.int 1000)) [tD (numL a)] [] = R.ret [PyData.int (a : Int)] := by
      have := comp_map (f := fun v_part => m_number_of v_part (.int 1000)) (h := fun m : Nat => tD (numL m)) (q := fun m : Nat => PyData.int (m : Int)) (l := [a]) (fun c hc => nums_1000 (by rw [List.mem_singleton] at hc; omega)) (le_size (show 1 ≤ 1000 by decide))
      exact this
    simp only [List.map_cons, List.map_nil, items_l, rb, c1, l1, gt_int, bool_b, nn, neg_int, i1, i0, eq_int]
    rw [decide_eq_false q]
    simp only [show decide ((2 : Int) < 1) = false from rfl, show decide ((1 : Int) = 2) = false from rfl, Bool.false_eq_true, if_false, rb, R.bind_assoc]
    rfl
  · rw [if_neg q2] at hx
    injection hx with hx
    subst hx
    have sp : spl [46, 46] 0 [] (numL a ++ [46, 46] ++ numL b) = [numL a, numL b] := by
      rw [List.append_assoc, spl_part1 (S := [46]) (f46 a), List.nil_append, spl_last1 (f46 b), List.nil_append]
    rw [Int.toNat_natCast, Int.toNat_natCast, sp]
    have i0 : ixR (.list [PyData.int (a : Int), .int (b : Int)]) (.int 0) = R.ret (.int (a : Int)) := ix_lst (k := 0) rfl
    have i1 : ixR (.list [PyData.int (a : Int), .int (b : Int)]) (.int (-1)) = R.ret (.int (b : Int)) := Eq.trans rfl rfl
    have i2 : ixR (.list [PyData.int (a : Int), .int (b : Int)]) (.int 1) = R.ret (.int (b : Int)) := ix_lst (k := 1) rfl
    have nn : inR .none (.list [PyData.int (a : Int), .int (b : Int)]) = R.ret (.bool false) := Eq.trans rfl rfl
    have c1 : compR (fun _ => R.ret true) (fun v_part => m_number_of v_part (.int 1000)) [tD (numL a), tD (numL b)] [] = R.ret [PyData.int (a : Int), .int (b : Int)] := by
      have := comp_map (f := fun v_part => m_number_of v_part (.int 1000)) (h := fun m : Nat => tD (numL m)) (q := fun m : Nat => PyData.int (m : Int)) (l := [a, b]) (fun c hc => nums_1000 (by simp only [List.mem_cons, List.not_mem_nil, or_false] at hc; omega)) (le_size (show 2 ≤ 1000 by decide))
      exact this
    simp only [List.map_cons, List.map_nil, items_l, rb, c1, len2, gt_int, bool_b, nn, neg_int, i1, i0, i2, eq_int, ge_int]
    rw [decide_eq_false q]
    simp only [show decide ((2 : Int) < 2) = false from rfl, show decide ((2 : Int) = 2) = true from rfl, Bool.false_eq_true, if_false, if_true, rb, R.bind_assoc]
    rw [decide_eq_false (show ¬ ((b : Int) ≤ (a : Int)) by omega)]
    rfl
/-- bounds of what a move gives -/
structure Rg (n : Nat) (lo hi : Nat → Int) : Prop where
  r0 : ∀ k, k < n → 0 ≤ lo k
  r1 : ∀ k, k < n → lo k ≤ hi k
  r2 : ∀ k, k < n → hi k ≤ 1000
theorem Kn6.wdR (K : Kn6 n kn) (G : Rg n lo hi) : Wd6 n (fun k => rngF (lo k) (hi k)) kn := ⟨K.n6, K.kok, K.kinj, fun k hk l hl => rngF_wok (G.r0 k hk) (G.r1 k hk) (G.r2 k hk) l hl⟩
theorem ranges_of_eq (K : Kn6 n kn) (G : Rg n lo hi) (hp : ks.Perm (hasW n fun k => rngF (lo k) (hi k))) : m_ranges_of (.tuple (kindsD n kn)) (tD (textI (fun k => rngF (lo k) (hi k)) kn ks)) = R.ret (.tuple [vec n lo, vec n hi]) := by
  have W := K.wdR G
  have n6 := K.n6
  have hlt : ∀ k ∈ ks, k < n := fun k hk => ((mem_hasW hp).mp hk).1
  have hlen : ks.length ≤ 6 := by have := hp.length_eq; have := hasW_len (n := n) (w := fun k => rngF (lo k) (hi k)); omega
  unfold m_ranges_of o_ranges_of endR0
  simp only [rb, R.bind_assoc, read_items_eq W hlt (hp.nodup_iff.mpr hasW_nodup) hlen]
  rw [asKN_k]
  simp only [rb, Bool.false_eq_true, if_false, items_t]
  unfold kindsD
  refine (congrArg (fun r => (seqR r _).bind outD) (forR_eq (h := fun k => tD (kn k)) (enc := fun pre : List Nat => (pre.map fun k => PyData.int (lo k), pre.map fun k => PyData.int (hi k))) (ks := List.range n) (fun k pre hk hpre => ?_) (List.range n) [] rfl)).trans ?_
  · have hk := List.mem_range.mp hk
    have hpl : pre.length ≤ 6 := by
      obtain ⟨post, hpost⟩ := hpre
      have := congrArg List.length hpost
      rw [List.length_range, List.length_append] at this
      omega
    have app : ∀ f : Nat → Int, appR (pre.map fun k => PyData.int (f k)) (.int (f k)) = R.ret ((pre ++ [k]).map fun k => PyData.int (f k)) := fun f => by
      rw [app_ok (by rw [List.length_map]; omega), List.map_append]
      rfl
    have hv := val_kvI (w := fun k => rngF (lo k) (hi k)) (kn := kn) ks (k := k) fun j hj e => K.kinj j k (hlt j hj) hk e
    have hin : dinR (.k (kvI (fun k => rngF (lo k) (hi k)) kn ks)) (tD (kn k)) = R.ret (.bool (decide (k ∈ ks))) := by
      show (match some (valD (kvI (fun k => rngF (lo k) (hi k)) kn ks) (.inr (tx (kn k)))) with | some o => R.ret (PyData.bool o.isSome) | _ => bad) = _
      rw [hv]
      by_cases q : k ∈ ks
      · rw [if_pos q, decide_eq_true q]; rfl
      · rw [if_neg q, decide_eq_false q]; rfl
    simp only [hin, rb, bool_b]
    by_cases q : k ∈ ks
    · obtain ⟨x, hx⟩ := Option.isSome_iff_exists.mp ((mem_hasW hp).mp q).2
      have hget : dgetR (.k (kvI (fun k => rngF (lo k) (hi k)) kn ks)) (tD (kn k)) = R.ret (tD x) := by
        show (match some (valD (kvI (fun k => rngF (lo k) (hi k)) kn ks) (.inr (tx (kn k)))) with | some (some v) => R.ret v | _ => bad) = _
        rw [hv, if_pos q, hx]
        rfl
      have isn : isR (PyData.tuple [.int (lo k), .int (hi k)]) .none = R.ret (.bool false) := Eq.trans rfl rfl
      simp only [q, decide_true, if_true, hget, rb, range_of_eq (G.r0 k hk) (G.r1 k hk) (G.r2 k hk) hx, isn, bool_b, Bool.false_eq_true, if_false, seq_nx, ix0, ix1, app lo, app hi]
    · have hz : rngF (lo k) (hi k) = none := by
        cases e : rngF (lo k) (hi k) with
        | none => rfl
        | some x => exact absurd ((mem_hasW hp).mpr ⟨hk, by rw [e]; rfl⟩) q
      have hh : hi k = 0 := by
        unfold rngF at hz
        by_cases z : hi k = 0
        · exact z
        · rw [if_neg z] at hz
          split at hz <;> cases hz
      have hl0 : lo k = 0 := by have := G.r0 k hk; have := G.r1 k hk; omega
      have a1 := app lo
      have a2 := app hi
      rw [hl0] at a1
      rw [hh] at a2
      simp only [q, decide_false, Bool.false_eq_true, if_false, rb, seq_nx, ix0, ix1, a1, a2]
  · simp only [seq_nx, tuple_l, rb]
    rfl
/-! names -/
theorem low_mem {c : Nat} (h : low c) : c ∈ smallL := by
  have := small_at (c - 97) (by unfold low at h; omega)
  have e : 97 + (c - 97) = c := by unfold low at h; omega
  rw [e] at this
  exact List.mem_of_getElem? this
theorem low_not {c : Nat} (h : ¬ low c) : c ∉ smallL := fun z => by
  have : ∀ c ∈ smallL, 97 ≤ c ∧ c ≤ 122 := by decide
  exact h (this c z)
theorem is_name_yes {l : List Nat} (h : NmOk l) : m_is_name (tD l) = R.ret (.bool true) := by
  have hl := h.len
  obtain ⟨c, r, e, hc⟩ := h.hd
  unfold m_is_name o_is_name endR0
  have isi : isiR "str" (tD l) = R.ret (.bool true) := Eq.trans rfl rfl
  have res : inR (tD l) (.tuple [PyData.str "kinds", PyData.str "nothing", PyData.str "endless", PyData.str "x"]) = R.ret (.bool false) := by
    rw [lit_kinds, lit_nothing, lit_endless, lit_x]
    have := in_txs (a := l) (ls := [[107, 105, 110, 100, 115], nothingL, endlessL, [120]])
    rw [decide_eq_false] at this
    · exact this
    · intro z
      simp only [List.mem_cons, List.not_mem_nil, or_false] at z
      have h5 := h.n5
      have h7 := h.n7
      rcases z with z | z | z | z <;> rw [z] at hl h5 h7 <;> simp [nothingL, endlessL] at hl h5 h7
  have i0 : ixR (tD l) (.int 0) = R.ret (tD [c]) := ix_tx (i := 0) (by rw [e]; rfl) (Nat.le_trans hl.2 (by decide))
  simp only [rb, R.bind_assoc, isi, bool_b, Bool.not_true, Bool.false_eq_true, if_false, len_tx (Nat.le_trans hl.2 (by decide)), le_int, res, lit_small, lit_dig, i0, in_tx]
  rw [decide_eq_true (show (1 : Int) ≤ (l.length : Int) by omega), decide_eq_true (show (l.length : Int) ≤ 12 by omega), decide_eq_true (low_mem hc)]
  simp only [if_true, bool_b, rb, Bool.not_true, Bool.false_eq_true, if_false, items_tx, R.bind_assoc]
  rw [comp_map (h := fun c => tD [c]) (q := fun _ => PyData.bool true) (l := l) (fun d hd => by
    rw [in_tx, rb, bool_b, rb]
    rcases h.al d hd with z | z
    · rw [decide_eq_true (low_mem z)]; rfl
    · rw [decide_eq_false (low_not (by unfold low; omega))]
      simp only [Bool.false_eq_true, if_false]
      rw [in_tx, decide_eq_true (dig_mem z)]) (le_size (by omega))]
  simp only [rb, all_true]
  rfl
/-! moves -/
def moveL (nm t1 t2 : List Nat) : List Nat := nm ++ [58, 32] ++ t1 ++ [32, 45, 62, 32] ++ t2
theorem moveL_len {nm t1 t2 : List Nat} (h0 : nm.length ≤ 12) (h1 : t1.length ≤ 700) (h2 : t2.length ≤ 700) : (moveL nm t1 t2).length ≤ 1418 := by
  unfold moveL
  simp only [List.length_append, List.length_cons, List.length_nil]
  omega
theorem read_move_eq {nm : List Nat} {tk : Nat → Int} {k1 k2 : List Nat} (hn : NmOk nm) (K : Kn6 n kn) (E : Ent n tk 1000 false) (G : Rg n lo hi) (p1 : k1.Perm (hasW n fun k => wordF (tk k))) (p2 : k2.Perm (hasW n fun k => rngF (lo k) (hi k))) :
    m_read_move (.tuple (kindsD n kn)) (tD (moveL nm (textI (fun k => wordF (tk k)) kn k1) (textI (fun k => rngF (lo k) (hi k)) kn k2))) = R.ret (.tuple [tD nm, vec n tk, vec n lo, vec n hi]) := by
  have W1 := K.wd E
  have W2 := K.wdR G
  have n6 := K.n6
  have lt1 : ∀ k ∈ k1, k < n := fun k hk => ((mem_hasW p1).mp hk).1
  have lt2 : ∀ k ∈ k2, k < n := fun k hk => ((mem_hasW p2).mp hk).1
  have l1 : k1.length ≤ 6 := by have := p1.length_eq; have := hasW_len (n := n) (w := fun k => wordF (tk k)); omega
  have l2 : k2.length ≤ 6 := by have := p2.length_eq; have := hasW_len (n := n) (w := fun k => rngF (lo k) (hi k)); omega
  have len1 := text_len W1 lt1 l1
  have len2' := text_len W2 lt2 l2
  have e1 := entries_of_eq K E p1
  have e2 := ranges_of_eq K G p2
  have fr : ∀ s, s = 58 ∨ s = 45 → s ∉ textI (fun k => wordF (tk k)) kn k1 := fun s hs => textfree W1 lt1 (by omega)
  have fr2 : ∀ s, s = 58 ∨ s = 45 → s ∉ textI (fun k => rngF (lo k) (hi k)) kn k2 := fun s hs => textfree W2 lt2 (by omega)
  generalize textI (fun k => wordF (tk k)) kn k1 = t1 at *
  generalize textI (fun k => rngF (lo k) (hi k)) kn k2 = t2 at *
  have ml := moveL_len hn.len.2 len1 len2'
  have s1 : spl [58, 32] 0 [] (moveL nm t1 t2) = [nm, t1 ++ [32, 45, 62, 32] ++ t2] := by
    unfold moveL
    rw [List.append_assoc, List.append_assoc, List.append_assoc, ← List.append_assoc t1]
    rw [spl_part1 (S := [32]) (hn.free (by omega)), List.nil_append, spl_last1, List.nil_append]
    intro z
    rcases List.mem_append.mp z with z | z
    · rcases List.mem_append.mp z with z | z
      · exact fr 58 (.inl rfl) z
      · exact absurd z (by decide)
    · exact fr2 58 (.inl rfl) z
  have s2 : spl [32, 45, 62, 32] 0 [] (t1 ++ [32, 45, 62, 32] ++ t2) = [t1, t2] := by
    rw [List.append_assoc, spl_part2 (S := [62, 32]) (fr 45 (.inr rfl)) (by decide), List.nil_append, spl_last2 (fr2 45 (.inr rfl)), List.nil_append]
  unfold m_read_move o_read_move endR0
  have sl : (t1 ++ [32, 45, 62, 32] ++ t2).length + 2 ≤ tMax := by
    simp only [List.length_append, List.length_cons, List.length_nil]
    unfold tMax
    omega
  have i0 : ∀ x y : D, ixR (.list [x, y]) (.int 0) = R.ret x := fun x y => ix_lst (k := 0) rfl
  have i1 : ∀ x y : D, ixR (.list [x, y]) (.int 1) = R.ret y := fun x y => ix_lst (k := 1) rfl
  have isn : ∀ x : Nat → Int, isR (vec n x) .none = R.ret (.bool false) := fun x => Eq.trans rfl rfl
  have isn2 : isR (PyData.tuple [vec n lo, vec n hi]) .none = R.ret (.bool false) := Eq.trans rfl rfl
  have at2 : addR (PyData.tuple [tD nm, vec n tk]) (PyData.tuple [vec n lo, vec n hi]) = R.ret (.tuple [tD nm, vec n tk, vec n lo, vec n hi]) := by
    show (if [tD nm, vec n tk].length + [vec n lo, vec n hi].length ≤ sizeLine then R.ret (PyData.tuple ([tD nm, vec n tk] ++ [vec n lo, vec n hi])) else bad) = _
    rw [if_pos (show [tD nm, vec n tk].length + [vec n lo, vec n hi].length ≤ sizeLine from le_size (show 4 ≤ 1000 by decide))]
    rfl
  simp only [rb, R.bind_assoc, lit_colon, lit_arrow, strR_tx, split_tx (S := [58, 32]) (by simp) (by unfold Sg; decide) (show (moveL nm t1 t2).length + 2 ≤ tMax by unfold tMax; omega), s1, List.map_cons, List.map_nil, len2, ne_int, decide_true, Bool.not_true, bool_b, Bool.false_eq_true, if_false, i0, i1, is_name_yes hn,
    split_tx (S := [32, 45, 62, 32]) (by simp) (by unfold Sg; decide) sl, s2]
  have e1 : m_entries_of (.tuple (kindsD n kn)) (tD t1) (.int 1000) (.bool false) = R.ret (vec n tk) := e1
  simp only [e1, e2, rb, isn, isn2, bool_b, Bool.false_eq_true, if_false, at2]
  rfl
end
/-! Books: printed and read. -/
section
open TL (numL spl spl_join)
variable {n : Nat} {kn mn : Nat → List Nat} {b : Bk}
def kindsW : List Nat := [107, 105, 110, 100, 115]
def kindsLine (n : Nat) (kn : Nat → List Nat) : List Nat := TL.joinL [32] (kindsW :: (List.range n).map kn)
theorem sg_kindsW : Sg kindsW := by unfold Sg kindsW; decide
/-- the line of a move, its items in some order -/
def lineM (b : Bk) (kn mn : Nat → List Nat) (K1 K2 : Nat → List Nat) (i : Nat) : List Nat := moveL (mn i) (textI (fun k => wordF (b.tk i k)) kn (K1 i)) (textI (fun k => rngF (b.lo i k) (b.hi i k)) kn (K2 i))
def bookL (b : Bk) (kn mn : Nat → List Nat) (K1 K2 : Nat → List Nat) : List Nat := TL.joinL [10] (kindsLine b.n kn :: (List.range b.mm).map (lineM b kn mn K1 K2))
/-- orders of the items of each line -/
structure Ords (b : Bk) (K1 K2 : Nat → List Nat) : Prop where
  p1 : ∀ i, i < b.mm → (K1 i).Perm (hasW b.n fun k => wordF (b.tk i k))
  p2 : ∀ i, i < b.mm → (K2 i).Perm (hasW b.n fun k => rngF (b.lo i k) (b.hi i k))
def has1 (b : Bk) (i : Nat) : List Nat := hasW b.n fun k => wordF (b.tk i k)
def has2 (b : Bk) (i : Nat) : List Nat := hasW b.n fun k => rngF (b.lo i k) (b.hi i k)
theorem ords_has : Ords b (has1 b) (has2 b) := ⟨fun _ _ => List.Perm.refl _, fun _ _ => List.Perm.refl _⟩
/-- a book that can be written -/
structure BkT (b : Bk) (kn mn : Nat → List Nat) : Prop where
  n1 : 1 ≤ b.n
  n6 : b.n ≤ 6
  m8 : b.mm ≤ 8
  N : BkN b kn mn
  F : b.Fine 1000
theorem BkT.kn6 (T : BkT b kn mn) : Kn6 b.n kn := ⟨T.n6, T.N.kok, T.N.kinj⟩
theorem BkT.ent (T : BkT b kn mn) (i : Nat) : Ent b.n (b.tk i) 1000 false := ⟨fun k _ => by have := T.F.tk0 i k; omega, fun k _ => T.F.tk1 i k, by decide, fun k _ z => by have := T.F.tk0 i k; omega⟩
theorem BkT.rg (T : BkT b kn mn) (i : Nat) : Rg b.n (b.lo i) (b.hi i) := ⟨fun k _ => T.F.lo0 i k, fun k _ => T.F.hi0 i k, fun k _ => T.F.hi1 i k⟩
theorem BkT.move (T : BkT b kn mn) {i : Nat} (hi : i < b.mm) : b.move i = .tuple [tD (mn i), vec b.n (b.tk i), vec b.n (b.lo i), vec b.n (b.hi i)] := by
  unfold Bk.move
  rw [T.N.nm i hi]
  rfl
theorem BkT.names (T : BkT b kn mn) : b.names = kindsD b.n kn := T.N.names
theorem BkT.i0 (T : BkT b kn mn) : ixR b.d (.int 0) = R.ret (.tuple (kindsD b.n kn)) := by unfold Bk.d; rw [T.names]; exact ix0
theorem BkT.i1 : ixR b.d (.int 1) = R.ret (.tuple b.moves) := by unfold Bk.d; exact ix1
theorem textlen1 (T : BkT b kn mn) {K1 K2 : Nat → List Nat} (O : Ords b K1 K2) {i : Nat} (hi : i < b.mm) : (textI (fun k => wordF (b.tk i k)) kn (K1 i)).length ≤ 700 ∧ (textI (fun k => rngF (b.lo i k) (b.hi i k)) kn (K2 i)).length ≤ 700 := by
  have n6 := T.n6
  refine ⟨text_len (T.kn6.wd (T.ent i)) (fun k hk => ((mem_hasW (O.p1 i hi)).mp hk).1) ?_, text_len (T.kn6.wdR (T.rg i)) (fun k hk => ((mem_hasW (O.p2 i hi)).mp hk).1) ?_⟩
  · have := (O.p1 i hi).length_eq
    have := hasW_len (n := b.n) (w := fun k => wordF (b.tk i k))
    omega
  · have := (O.p2 i hi).length_eq
    have := hasW_len (n := b.n) (w := fun k => rngF (b.lo i k) (b.hi i k))
    omega
theorem line_len (T : BkT b kn mn) {K1 K2 : Nat → List Nat} (O : Ords b K1 K2) {i : Nat} (hi : i < b.mm) : (lineM b kn mn K1 K2 i).length ≤ 1418 := moveL_len (T.N.mok i hi).len.2 (textlen1 T O hi).1 (textlen1 T O hi).2
theorem add_move {nm t1 t2 : List Nat} (h0 : nm.length ≤ 12) (h1 : t1.length ≤ 700) (h2 : t2.length ≤ 700) : (addR (tD nm) (tD [58, 32])).bind (fun x => (addR x (tD t1)).bind fun x => (addR x (tD [32, 45, 62, 32])).bind fun x => addR x (tD t2)) = R.ret (tD (moveL nm t1 t2)) := by
  rw [add_tx (by show _ + 2 ≤ 1000000; omega), rb, add_tx (by rw [List.length_append]; show _ + 2 + _ ≤ 1000000; omega), rb, add_tx (by rw [List.length_append, List.length_append]; show _ + 2 + _ + 4 ≤ 1000000; omega), rb, add_tx (by rw [List.length_append, List.length_append, List.length_append]; show _ + 2 + _ + 4 + _ ≤ 1000000; omega)]
  rfl
theorem print_move_eq (T : BkT b kn mn) {i : Nat} (hi : i < b.mm) : m_print_move b.d (b.move i) = R.ret (tD (lineM b kn mn (has1 b) (has2 b) i)) := by
  have n6 := T.n6
  have hl := textlen1 T ords_has hi
  unfold m_print_move o_print_move endR0
  rw [T.move hi]
  simp only [rb, unp4_t, R.bind_assoc, len_vec, rng_nat (small62 (show b.n ≤ 1000 by omega)), T.i0]
  rw [comp_range (g := fun k => oD (rngF (b.lo i k) (b.hi i k))) (le_size (by omega)) fun k hk => by
    simp only [ix_vec hk, rb, print_range_eq (T.F.lo0 i k) (T.F.hi0 i k) (T.F.hi1 i k)]]
  simp only [rb, print_items_eq (T.kn6.wdR (T.rg i)), print_stock_eq T.names T.kn6 (T.ent i), lit_colon, lit_arrow]
  have := add_move (T.N.mok i hi).len.2 hl.1 hl.2
  unfold lineM
  have e := congrArg (fun r => R.bind r fun d => outD (Out.rt d ())) this
  simp only [R.bind_assoc, rb] at e
  exact e
theorem moves_map (T : BkT b kn mn) : b.moves = (List.range b.mm).map b.move := rfl
theorem kl_len (T : BkT b kn mn) : (kindsLine b.n kn).length ≤ 100 := by
  unfold kindsLine
  have n6 := T.n6
  refine Nat.le_trans (joinL_len _) ?_
  have := sumL_le (m := 1) (B := 12) (ls := kindsW :: (List.range b.n).map kn) fun l hl => by
    rcases List.mem_cons.mp hl with rfl | hl
    · decide
    · obtain ⟨k, hk, rfl⟩ := List.mem_map.mp hl
      exact (T.N.kok k (List.mem_range.mp hk)).len.2
  rw [List.length_cons, List.length_map, List.length_range] at this
  show sumL 1 _ ≤ 100
  omega
theorem lines_sum (T : BkT b kn mn) {K1 K2 : Nat → List Nat} (O : Ords b K1 K2) : sumL 1 (kindsLine b.n kn :: (List.range b.mm).map (lineM b kn mn K1 K2)) ≤ 13000 := by
  have m8 := T.m8
  have := sumL_le (m := 1) (B := 1418) (ls := kindsLine b.n kn :: (List.range b.mm).map (lineM b kn mn K1 K2)) fun l hl => by
    rcases List.mem_cons.mp hl with rfl | hl
    · exact Nat.le_trans (kl_len T) (by decide)
    · obtain ⟨i, hi, rfl⟩ := List.mem_map.mp hl
      exact line_len T O (List.mem_range.mp hi)
  rw [List.length_cons, List.length_map, List.length_range] at this
  omega
theorem book_len (T : BkT b kn mn) {K1 K2 : Nat → List Nat} (O : Ords b K1 K2) : (bookL b kn mn K1 K2).length ≤ 13000 := Nat.le_trans (joinL_len _) (lines_sum T O)
theorem kinds_sum (T : BkT b kn mn) : sumL 1 (kindsW :: (List.range b.n).map kn) ≤ 100 := by
  have n6 := T.n6
  have := sumL_le (m := 1) (B := 12) (ls := kindsW :: (List.range b.n).map kn) fun l hl => by
    rcases List.mem_cons.mp hl with rfl | hl
    · decide
    · obtain ⟨k, hk, rfl⟩ := List.mem_map.mp hl
      exact (T.N.kok k (List.mem_range.mp hk)).len.2
  rw [List.length_cons, List.length_map, List.length_range] at this
  omega
theorem print_book_eq (T : BkT b kn mn) : m_print_book b.d = R.ret (tD (bookL b kn mn (has1 b) (has2 b))) := by
  have n6 := T.n6
  have m8 := T.m8
  unfold m_print_book o_print_book endR0
  have ka : addR (PyData.tuple [tD kindsW]) (.tuple (kindsD b.n kn)) = R.ret (.tuple ((kindsW :: (List.range b.n).map kn).map tD)) := by
    show (if [tD kindsW].length + (kindsD b.n kn).length ≤ sizeLine then R.ret (PyData.tuple ([tD kindsW] ++ kindsD b.n kn)) else bad) = _
    rw [if_pos (show [tD kindsW].length + (kindsD b.n kn).length ≤ sizeLine from le_size (by unfold kindsD; rw [List.length_map, List.length_range]; simp only [List.length_cons, List.length_nil]; omega)), kindsD_map]
    rfl
  simp only [rb, R.bind_assoc, lit_line, lit_sp, lit_kinds, strR_tx, T.i0, BkT.i1, items_t]
  rw [show ([107, 105, 110, 100, 115] : List Nat) = kindsW from rfl, ka]
  simp only [rb, join_txT (S := [32]) (Nat.le_trans (kinds_sum T) (by decide))]
  rw [moves_map T, comp_map (q := fun i => tD (lineM b kn mn (has1 b) (has2 b) i)) (fun i hi => print_move_eq T (List.mem_range.mp hi)) (le_size (by rw [List.length_range]; omega))]
  simp only [rb]
  rw [addl_ok (by rw [List.length_map, List.length_range]; simp only [List.length_cons, List.length_nil]; omega)]
  simp only [rb]
  have e : [tD (TL.joinL [32] (kindsW :: (List.range b.n).map kn))] ++ (List.range b.mm).map (fun i => tD (lineM b kn mn (has1 b) (has2 b) i)) = (kindsLine b.n kn :: (List.range b.mm).map (lineM b kn mn (has1 b) (has2 b))).map tD := by
    rw [List.map_cons, List.map_map]
    rfl
  rw [e, join_tx (S := [10]) (Nat.le_trans (lines_sum T ords_has) (by decide))]
  rfl
theorem kinds_join : ∀ {ls : List (List Nat)}, ls ≠ [] → (kindsW ++ [32]) ++ TL.joinL [32] ls = TL.joinL [32] (kindsW :: ls)
  | [], h => absurd rfl h
  | l :: ls, _ => by
    rw [List.append_assoc]
    rfl
theorem lbook_ok (T : BkT b kn mn) (mix : Bool) : Ok (m_law_book_text b.d (.bool mix)) fun d => ∃ K1 K2 : Nat → List Nat, d = tD (bookL b kn mn K1 K2) ∧ Ords b K1 K2 ∧ (mix = false → bookL b kn mn K1 K2 = bookL b kn mn (has1 b) (has2 b)) := by
  have n6 := T.n6
  have n1 := T.n1
  have m8 := T.m8
  unfold m_law_book_text o_law_book_text
  refine ok_end ?_
  have ks : sumL 1 ((List.range b.n).map kn) ≤ 100 := by
    have := kinds_sum T
    unfold sumL at this ⊢
    rw [List.map_cons, List.sum_cons, List.length_cons] at this
    omega
  simp only [rb, R.bind_assoc, lit_line, lit_sp, lit_kindsp, strR_tx, T.i0, BkT.i1, items_t, kindsD_map, join_txT (S := [32]) (Nat.le_trans ks (by decide))]
  rw [add_tx (by have := joinL_len (S := [32]) ((List.range b.n).map kn); show 6 + _ ≤ 1000000; have := Nat.le_trans this ks; omega)]
  have e0 : [107, 105, 110, 100, 115, 32] ++ TL.joinL [32] ((List.range b.n).map kn) = kindsLine b.n kn := kinds_join (ls := (List.range b.n).map kn) (fun z => by
    have := congrArg List.length z
    rw [List.length_map, List.length_range] at this
    simp only [List.length_nil] at this
    omega)
  simp only [rb, e0]
  rw [moves_map T]
  refine ok_seqP' (P := fun s : List D => ∃ K1 K2 : Nat → List Nat, s = tD (kindsLine b.n kn) :: (List.range b.mm).map (fun i => tD (lineM b kn mn K1 K2 i)) ∧ Ords b K1 K2 ∧ (mix = false → ∀ i, i < b.mm → K1 i = has1 b i ∧ K2 i = has2 b i)) ?_ fun s hs => ?_
  · refine ok_mono (ok_for0 (Q := fun o => ∃ s, o = .nx s ∧ ∃ K1 K2 : Nat → List Nat, s = tD (kindsLine b.n kn) :: (List.range b.mm).map (fun i => tD (lineM b kn mn K1 K2 i)) ∧ Ords b K1 K2 ∧ (mix = false → ∀ i, i < b.mm → K1 i = has1 b i ∧ K2 i = has2 b i))
      (fun j s => ∃ K1 K2 : Nat → List Nat, s = tD (kindsLine b.n kn) :: (List.range j).map (fun i => tD (lineM b kn mn K1 K2 i)) ∧ (∀ i, i < j → (K1 i).Perm (has1 b i) ∧ (K2 i).Perm (has2 b i)) ∧ (mix = false → ∀ i, i < j → K1 i = has1 b i ∧ K2 i = has2 b i)) ⟨fun _ => [], fun _ => [], rfl, fun i hi => absurd hi (Nat.not_lt_zero _), fun _ i hi => absurd hi (Nat.not_lt_zero _)⟩ (fun j d s hd hs => ?_) fun s hs => ?_) fun o ho => ho
    · obtain ⟨K1, K2, rfl, hp, hm⟩ := hs
      have hj : j < b.mm := by
        have := (List.getElem?_eq_some_iff.mp hd).1
        rwa [List.length_map, List.length_range] at this
      rw [List.getElem?_map, List.getElem?_range hj] at hd
      have hd : b.move j = d := by injection hd
      subst hd
      rw [T.move hj, unp4_t]
      simp only [len_vec, rng_nat (small62 (show b.n ≤ 1000 by omega)), rb]
      rw [comp_range (g := fun k => tD ((rngF (b.lo j k) (b.hi j k)).getD [])) (le_size (by omega)) fun k hk => by
        simp only [ix_vec hk, rb, lrange_eq (T.F.lo0 j k) (T.F.hi0 j k) (T.F.hi1 j k)]]
      simp only [rb]
      rw [← kindsD_map]
      refine ok_step (litems_ok (T.kn6.wdR (T.rg j)) mix) fun d hd => ?_
      obtain ⟨k2, rfl, p2, m2⟩ := hd
      have hn12 := (T.N.mok j hj).len.2
      simp only [lit_colon, lit_arrow]
      rw [add_tx (by show _ + 2 ≤ 1000000; omega)]
      simp only [rb]
      refine ok_step (lstock_ok T.kn6 (T.ent j) mix) fun d hd => ?_
      obtain ⟨k1, rfl, p1, m1⟩ := hd
      have l1 : (textI (fun k => wordF (b.tk j k)) kn k1).length ≤ 700 := text_len (T.kn6.wd (T.ent j)) (fun k hk => ((mem_hasW p1).mp hk).1) (by have := p1.length_eq; have := hasW_len (n := b.n) (w := fun k => wordF (b.tk j k)); omega)
      have l2 : (textI (fun k => rngF (b.lo j k) (b.hi j k)) kn k2).length ≤ 700 := text_len (T.kn6.wdR (T.rg j)) (fun k hk => ((mem_hasW p2).mp hk).1) (by have := p2.length_eq; have := hasW_len (n := b.n) (w := fun k => rngF (b.lo j k) (b.hi j k)); omega)
      rw [add_tx (by rw [List.length_append]; show _ + 2 + _ ≤ 1000000; omega), rb, add_tx (by rw [List.length_append, List.length_append]; show _ + 2 + _ + 4 ≤ 1000000; omega), rb, add_tx (by rw [List.length_append, List.length_append, List.length_append]; show _ + 2 + _ + 4 + _ ≤ 1000000; omega), rb]
      rw [app_ok (by rw [List.length_cons, List.length_map, List.length_range]; omega)]
      simp only [rb, okr]
      refine ⟨fun i => if i = j then k1 else K1 i, fun i => if i = j then k2 else K2 i, ?_, fun i hi => ?_, fun hm' i hi => ?_⟩
      · rw [List.range_succ, List.map_append, List.cons_append]
        congr 2
        · refine List.map_congr_left fun i hi => ?_
          have : i ≠ j := Nat.ne_of_lt (List.mem_range.mp hi)
          unfold lineM
          simp only [this, if_false]
        · rw [List.map_cons, List.map_nil]
          unfold lineM
          simp only [if_true]
          rfl
      · by_cases e : i = j
        · simp only [e, if_true]
          exact ⟨p1, p2⟩
        · simp only [e, if_false]
          exact hp i (by omega)
      · by_cases e : i = j
        · simp only [e, if_true]
          exact ⟨m1 hm', m2 hm'⟩
        · simp only [e, if_false]
          exact hm hm' i (by omega)
    · obtain ⟨K1, K2, rfl, hp, hm⟩ := hs
      rw [List.length_map, List.length_range] at hp hm ⊢
      exact ⟨_, rfl, K1, K2, rfl, ⟨fun i hi => (hp i hi).1, fun i hi => (hp i hi).2⟩, hm⟩
  · obtain ⟨K1, K2, rfl, O, hm⟩ := hs
    have e : tD (kindsLine b.n kn) :: (List.range b.mm).map (fun i => tD (lineM b kn mn K1 K2 i)) = (kindsLine b.n kn :: (List.range b.mm).map (lineM b kn mn K1 K2)).map tD := by
      rw [List.map_cons, List.map_map]
      rfl
    rw [e, join_tx (S := [10]) (Nat.le_trans (lines_sum T O) (by decide)), rb]
    refine ok_ret ⟨K1, K2, rfl, O, fun z => ?_⟩
    unfold bookL
    congr 2
    refine List.map_congr_left fun i hi => ?_
    unfold lineM
    rw [(hm z i (List.mem_range.mp hi)).1, (hm z i (List.mem_range.mp hi)).2]
/-! reading -/
theorem nd_map {α β : Type} {f : α → β} {l : List α} (h : ∀ x ∈ l, ∀ y ∈ l, f x = f y → x = y) (hn : l.Nodup) : (l.map f).Nodup := by
  unfold List.Nodup
  rw [List.pairwise_map]
  exact List.Pairwise.imp_of_mem (fun ha hb hne e => hne (h _ ha _ hb e)) hn
theorem onceS_nd : ∀ (ys acc : List Str), ys.Nodup → (∀ y ∈ ys, y ∉ acc) → onceS acc ys = acc ++ ys
  | [], acc, _, _ => by rw [List.append_nil]; rfl
  | y :: ys, acc, hn, h => by
    rw [List.nodup_cons] at hn
    unfold onceS
    have hc : acc.contains y = false := by
      cases e : acc.contains y with
      | false => rfl
      | true => exact absurd (List.contains_iff_mem.mp e) (h y List.mem_cons_self)
    rw [hc, if_neg (by decide), onceS_nd ys (acc ++ [y]) hn.2 fun z hz hm => by
      rcases List.mem_append.mp hm with hm | hm
      · exact h z (List.mem_cons_of_mem _ hz) hm
      · rw [List.mem_singleton] at hm
        subst hm
        exact hn.1 hz, List.append_assoc]
    rfl
theorem kn_nodup (K : Kn6 n kn) : ((List.range n).map kn).Nodup := by
  refine nd_map (fun j hj k hk e => K.kinj j k (List.mem_range.mp hj) (List.mem_range.mp hk) e) List.nodup_range
theorem read_kinds_eq (K : Kn6 n kn) (n1 : 1 ≤ n) : m_read_kinds (tD (kindsLine n kn)) = R.ret (.tuple (kindsD n kn)) := by
  have n6 := K.n6
  have hl : (kindsLine n kn).length ≤ 100 := by
    unfold kindsLine
    refine Nat.le_trans (joinL_len _) ?_
    have := sumL_le (m := 1) (B := 12) (ls := kindsW :: (List.range n).map kn) fun l hl => by
      rcases List.mem_cons.mp hl with rfl | hl
      · decide
      · obtain ⟨k, hk, rfl⟩ := List.mem_map.mp hl
        exact (K.kok k (List.mem_range.mp hk)).len.2
    rw [List.length_cons, List.length_map, List.length_range] at this
    show sumL 1 _ ≤ 100
    omega
  have sp : spl [32] 0 [] (kindsLine n kn) = kindsW :: (List.range n).map kn := by
    unfold kindsLine
    refine spl_join (S := []) (by simp) fun p hp => ?_
    rcases List.mem_cons.mp hp with rfl | hp
    · decide
    · obtain ⟨k, hk, rfl⟩ := List.mem_map.mp hp
      exact (K.kok k (List.mem_range.mp hk)).free (by omega)
  unfold m_read_kinds o_read_kinds endR0
  have s1 : sliceR (.list (tD kindsW :: ((List.range n).map kn).map tD)) (some 1) none = R.ret (.list (((List.range n).map kn).map tD)) := by
    show R.ret (PyData.list (cutD _ (some ((1 : Nat) : Int)) none)) = _
    rw [cut_drop]
    rfl
  have i0 : ixR (.list (tD kindsW :: ((List.range n).map kn).map tD)) (.int 0) = R.ret (tD kindsW) := ix_lst (k := 0) rfl
  have hlen : (((List.range n).map kn).map tD).length = n := by rw [List.length_map, List.length_map, List.length_range]
  have ls : lenSetR (.tuple (((List.range n).map kn).map tD)) = R.ret (.int (n : Int)) := by
    unfold lenSetR
    simp only [strs_tD]
    rw [if_pos (by rw [List.length_map, List.length_map, List.length_range]; omega), onceS_nd _ [] (nd_map (fun x _ y _ e => tx_inj.mp e) (kn_nodup K)) (fun _ _ z => by cases z), List.nil_append, List.length_map, List.length_map, List.length_range]
  simp only [rb, R.bind_assoc, lit_sp, lit_kinds, strR_tx, split_tx (S := [32]) (by simp) (by unfold Sg; decide) (show (kindsLine n kn).length + 2 ≤ tMax by unfold tMax; omega), sp, List.map_cons, part_int, s1, tuple_l, i0]
  rw [show ([107, 105, 110, 100, 115] : List Nat) = kindsW from rfl]
  simp only [ne_tx sg_kindsW sg_kindsW, decide_true, Bool.not_true, rb, bool_b, Bool.false_eq_true, if_false, len_t, hlen, le_int, items_t]
  rw [decide_eq_true (show (1 : Int) ≤ (n : Int) by omega), decide_eq_true (show (n : Int) ≤ 6 by omega)]
  simp only [bool_b, rb, if_true, Bool.not_true, Bool.false_eq_true, if_false]
  rw [List.map_map, comp_map (f := fun x => m_is_name x) (h := tD ∘ kn) (q := fun _ => PyData.bool true) (fun k hk => is_name_yes (K.kok k (List.mem_range.mp hk))) (le_size (by rw [List.length_range]; omega)), ← List.map_map]
  simp only [rb, all_true, bool_b, Bool.not_true, Bool.false_eq_true, if_false, ls, eq_int, decide_true, if_true, kindsD_map]
  rfl
theorem in_txsL {a : List Nat} {ls : List (List Nat)} : inR (tD a) (.list (ls.map tD)) = R.ret (.bool (decide (a ∈ ls))) := by
  have h : (flatD (tD a) && (ls.map tD).all flatD) = true := by
    rw [List.all_map]
    exact List.all_eq_true.mpr fun _ _ => rfl
  have e := in_txs (a := a) (ls := ls)
  simp only [inR, h, if_true] at e ⊢
  exact e
theorem read_book_eq (T : BkT b kn mn) {K1 K2 : Nat → List Nat} (O : Ords b K1 K2) : m_read_book (tD (bookL b kn mn K1 K2)) = R.ret b.d := by
  have n6 := T.n6
  have m8 := T.m8
  have bl := book_len T O
  have sp : spl [10] 0 [] (bookL b kn mn K1 K2) = kindsLine b.n kn :: (List.range b.mm).map (lineM b kn mn K1 K2) := by
    unfold bookL
    refine spl_join (S := []) (by simp) fun p hp => ?_
    rcases List.mem_cons.mp hp with rfl | hp
    · unfold kindsLine
      refine joinfree (by decide) fun l hl => ?_
      rcases List.mem_cons.mp hl with rfl | hl
      · decide
      · obtain ⟨k, hk, rfl⟩ := List.mem_map.mp hl
        exact (T.N.kok k (List.mem_range.mp hk)).free (by omega)
    · obtain ⟨i, hi, rfl⟩ := List.mem_map.mp hp
      have hi := List.mem_range.mp hi
      unfold lineM moveL
      intro z
      rcases List.mem_append.mp z with z | z
      · rcases List.mem_append.mp z with z | z
        · rcases List.mem_append.mp z with z | z
          · rcases List.mem_append.mp z with z | z
            · exact (T.N.mok i hi).free (by omega) z
            · exact absurd z (by decide)
          · exact textfree (T.kn6.wd (T.ent i)) (fun k hk => ((mem_hasW (O.p1 i hi)).mp hk).1) (by omega) z
        · exact absurd z (by decide)
      · exact textfree (T.kn6.wdR (T.rg i)) (fun k hk => ((mem_hasW (O.p2 i hi)).mp hk).1) (by omega) z
  unfold m_read_book o_read_book endR0
  have i0 : ∀ (x : D) (xs : List D), ixR (.list (x :: xs)) (.int 0) = R.ret x := fun x xs => ix_lst (k := 0) rfl
  have isn : isR (PyData.tuple (kindsD b.n kn)) .none = R.ret (.bool false) := Eq.trans rfl rfl
  have ll : listL (.tuple (kindsD b.n kn)) = R.ret (kindsD b.n kn) := Eq.trans rfl rfl
  have rg : rng2R (.int 1) (.int (((List.range b.mm).map (fun i => tD (lineM b kn mn K1 K2 i))).length + 1 : Nat)) = R.ret ((List.range b.mm).map fun k : Nat => PyData.int (1 + (k : Int))) := by
    rw [List.length_map, List.length_range]
    have hc : -(2 ^ 62) ≤ (1 : Int) ∧ (1 : Int) < 2 ^ 62 ∧ -(2 ^ 62) ≤ ((b.mm + 1 : Nat) : Int) ∧ ((b.mm + 1 : Nat) : Int) < 2 ^ 62 := ⟨by omega, by omega, by omega, by omega⟩
    simp only [rng2R, hc, and_self, if_true]
    rw [show (((b.mm + 1 : Nat) : Int) - 1).toNat = b.mm by omega]
    rfl
  simp only [rb, R.bind_assoc, lit_line, strR_tx, split_tx (S := [10]) (by simp) (by unfold Sg; decide) (show (bookL b kn mn K1 K2).length + 2 ≤ tMax by unfold tMax; omega), sp, List.map_cons, i0, read_kinds_eq T.kn6 T.n1, isn, bool_b, Bool.false_eq_true, if_false, ll, len_l, List.length_cons, List.map_map]
  rw [show (tD ∘ lineM b kn mn K1 K2) = fun i => tD (lineM b kn mn K1 K2 i) from rfl, rg]
  simp only [rb]
  have e0 : (([] : List D), kindsD b.n kn) = (fun pre : List Nat => (pre.map b.move, (((List.range b.n).map kn) ++ pre.map mn).map tD)) [] := by
    show _ = (_, _)
    rw [kindsD_map, List.map_nil, List.map_nil, List.append_nil]
  rw [e0, forR_eq (h := fun k : Nat => PyData.int (1 + (k : Int))) (enc := fun pre : List Nat => (pre.map b.move, (((List.range b.n).map kn) ++ pre.map mn).map tD)) (ks := List.range b.mm) (fun k pre hk hpre => ?_) (List.range b.mm) [] rfl]
  · simp only [seq_nx, tuple_l, rb]
    show R.ret (PyData.tuple [.tuple (kindsD b.n kn), .tuple ((List.range b.mm).map b.move)]) = R.ret b.d
    unfold Bk.d
    rw [T.names]
    rfl
  · have hk := List.mem_range.mp hk
    have hpre2 : pre = List.range k := by
      obtain ⟨post, hp⟩ := hpre
      have h1 := congrArg (fun l : List Nat => l[pre.length]?) hp
      simp only [List.getElem?_append_right (Nat.le_refl _), Nat.sub_self, List.getElem?_cons_zero] at h1
      have hl : pre.length < b.mm := by
        have := congrArg List.length hp
        rw [List.length_range, List.length_append, List.length_cons] at this
        omega
      rw [List.getElem?_range hl] at h1
      have e : pre.length = k := by injection h1
      have h2 := congrArg (List.take pre.length) hp
      rw [List.take_left, List.take_range] at h2
      rw [← h2, e, Nat.min_eq_left (by omega)]
    have li : ixR (.list (tD (kindsLine b.n kn) :: (List.range b.mm).map (fun i => tD (lineM b kn mn K1 K2 i)))) (.int (1 + (k : Int))) = R.ret (tD (lineM b kn mn K1 K2 k)) := by
      rw [show (1 : Int) + (k : Int) = ((k + 1 : Nat) : Int) by omega]
      exact ix_lst (by rw [List.getElem?_cons_succ]; exact ix_rng (β := D) hk)
    have rm := read_move_eq (T.N.mok k hk) T.kn6 (T.ent k) (T.rg k) (O.p1 k hk) (O.p2 k hk)
    have rm : m_read_move (.tuple (kindsD b.n kn)) (tD (lineM b kn mn K1 K2 k)) = R.ret (b.move k) := by rw [T.move hk]; exact rm
    have mv0 : ixR (b.move k) (.int 0) = R.ret (tD (mn k)) := by rw [T.move hk]; exact ix0
    have isn2 : isR (b.move k) .none = R.ret (.bool false) := Eq.trans rfl rfl
    have nin : decide (mn k ∈ (List.range b.n).map kn ++ pre.map mn) = false := by
      refine decide_eq_false fun z => ?_
      rcases List.mem_append.mp z with z | z
      · obtain ⟨j, hj, e⟩ := List.mem_map.mp z
        exact T.N.apart j k (List.mem_range.mp hj) hk e
      · obtain ⟨j, hj, e⟩ := List.mem_map.mp z
        rw [hpre2, List.mem_range] at hj
        have := T.N.minj j k (by omega) hk e
        omega
    have pl : pre.length = k := by rw [hpre2, List.length_range]
    simp only [li, rb, rm, isn2, bool_b, Bool.false_eq_true, if_false, mv0, in_txsL, nin, len_l, List.length_map, eq_int, pl]
    rw [decide_eq_false (show ¬ ((k : Int) = 8) by omega)]
    simp only [Bool.false_eq_true, if_false]
    rw [app_ok (by rw [List.length_map]; omega), app_ok (by rw [List.length_map, List.length_append, List.length_map, List.length_range, List.length_map]; omega)]
    simp only [rb, List.map_append, List.append_assoc]
    rfl
end
/-! Runs: drawn, printed. -/
section
open TL (numL numL_lt numL_step numL_digits numL_ne numL_len spl spl_part1 spl_last1)
variable {b : Bk} {kn mn : Nat → List Nat} {d : Nat} {x : D} {t : List Nat} {mm : Nat}
def doL : List Nat := [100, 111]
def repL : List Nat := [114, 101, 112]
theorem lit_do : PyData.str "do" = tD doL := congrArg PyData.str (by decide +kernel)
theorem lit_repw : PyData.str "rep" = tD repL := congrArg PyData.str (by decide +kernel)
theorem sg_do : Sg doL := by unfold Sg doL; decide
theorem sg_repw : Sg repL := by unfold Sg repL; decide
def stepX (m : Nat) : D := .tuple [tD doL, .int (m : Int)]
def repX (c : Nat) (x : D) : D := .tuple [tD repL, .int (c : Int), x]
def repT (c : Nat) (t : List Nat) : List Nat := numL c ++ [32, 120, 32, 40] ++ t ++ [41]
def runT (ls : List (List Nat)) : List Nat := if ls = [] then nothingL else TL.joinL [59, 32] ls
def StepOk (mm : Nat) (mn : Nat → List Nat) (P : D → List Nat → Prop) (p : D × List Nat) : Prop := (∃ m, m < mm ∧ p = (stepX m, mn m)) ∨ ∃ c xi ti, 1 ≤ c ∧ c ≤ big30 ∧ P xi ti ∧ xi ≠ .tuple [] ∧ p = (repX c xi, repT c ti)
def RunOf (mm : Nat) (mn : Nat → List Nat) (P : D → List Nat → Prop) (x : D) (t : List Nat) : Prop := ∃ ps : List (D × List Nat), ps.length ≤ 3 ∧ (∀ p ∈ ps, StepOk mm mn P p) ∧ x = .tuple (ps.map (·.1)) ∧ t = runT (ps.map (·.2))
/-- a run of some depth and its text -/
def RunOk (mm : Nat) (mn : Nat → List Nat) : Nat → D → List Nat → Prop
  | 0 => RunOf mm mn fun _ _ => False
  | d + 1 => RunOf mm mn (RunOk mm mn d)
theorem StepOk.mono {P Q : D → List Nat → Prop} (h : ∀ x t, P x t → Q x t) {p : D × List Nat} (s : StepOk mm mn P p) : StepOk mm mn Q p := s.imp id fun ⟨c, xi, ti, h1, h2, h3, h4⟩ => ⟨c, xi, ti, h1, h2, h _ _ h3, h4⟩
theorem pl_run : ∀ {d : Nat} {x : D} {t : List Nat}, RunOk mm mn d x t → Pl (2 * d + 2) x := by
  intro d
  induction d with
  | zero =>
    rintro x t ⟨ps, _, hs, rfl, _⟩
    unfold Pl
    intro y hy
    obtain ⟨p, hp, rfl⟩ := List.mem_map.mp hy
    rcases hs p hp with ⟨m, _, rfl⟩ | ⟨c, xi, ti, _, _, z, _⟩
    · unfold stepX Pl
      intro z hz
      simp only [List.mem_cons, List.not_mem_nil, or_false] at hz
      rcases hz with rfl | rfl
      · unfold tD Pl; exact sg_do.lay
      · exact pl_int
    · exact z.elim
  | succ d ih =>
    rintro x t ⟨ps, _, hs, rfl, _⟩
    show Pl ((2 * d + 2) + 2) _
    unfold Pl
    intro y hy
    obtain ⟨p, hp, rfl⟩ := List.mem_map.mp hy
    rcases hs p hp with ⟨m, _, rfl⟩ | ⟨c, xi, ti, _, _, hr, _, rfl⟩
    · unfold stepX Pl
      intro z hz
      simp only [List.mem_cons, List.not_mem_nil, or_false] at hz
      rcases hz with rfl | rfl
      · unfold tD Pl; exact sg_do.lay
      · exact pl_int
    · unfold repX Pl
      intro z hz
      simp only [List.mem_cons, List.not_mem_nil, or_false] at hz
      rcases hz with rfl | rfl | rfl
      · unfold tD Pl; exact sg_repw.lay
      · exact pl_int
      · exact ih hr
theorem pl_nilT {k : Nat} : Pl (k + 1) (.tuple []) := by unfold Pl; simp
/-- an empty tuple -/
def nilB : D → Bool
  | .tuple xs => xs.isEmpty
  | _ => false
theorem nilB_yes : nilB x = true ↔ x = .tuple [] := by
  cases x with
  | tuple xs => cases xs <;> simp [nilB]
  | _ => simp [nilB]
theorem nilB_no (h : x ≠ .tuple []) : nilB x = false := by
  cases e : nilB x with
  | false => rfl
  | true => exact absurd (nilB_yes.mp e) h
theorem eq_run (hd : d ≤ 5) (h : RunOk mm mn d x t) : eqR x (.tuple []) = R.ret (.bool (nilB x)) := by
  by_cases q : x = .tuple []
  · subst q
    exact eq_yes (k := 1) pl_nilT (by decide)
  · rw [nilB_no q]
    exact eq_no (k := 2 * d + 2) (pl_run h) pl_nilT (by omega) q
theorem eq_lnil {ls : List (List Nat)} (h : ∀ l ∈ ls, Sg l) : eqR (.list (ls.map tD)) (.list []) = R.ret (.bool ls.isEmpty) := by
  have pl : ∀ ls : List (List Nat), (∀ l ∈ ls, Sg l) → Pl 1 (.list (ls.map tD)) := fun ls h => by
    unfold Pl
    intro y hy
    obtain ⟨l, hl, rfl⟩ := List.mem_map.mp hy
    unfold tD Pl
    exact (h l hl).lay
  cases ls with
  | nil => exact eq_yes (k := 1) (pl [] (by simp)) (by decide)
  | cons l r => exact eq_no (k := 1) (pl _ h) (pl [] (by simp)) (by decide) (by intro z; injection z with z; cases z)
/-! drawing -/
theorem lrun_ok : ∀ (d f : Nat), d < f → d ≤ 4 → Ok (m_law_run f (.int (mm : Int)) (.int (d : Int)) (.int (big30 : Int))) fun x => ∃ t, RunOk mm mn d x t := by
  intro d
  induction d with
  | zero =>
    intro f hf _
    obtain ⟨f, rfl⟩ : ∃ g, f = g + 1 := ⟨f - 1, by omega⟩
    unfold m_law_run o_law_run
    refine ok_end ?_
    simp only [rb, R.bind_assoc]
    refine ok_step (draw_lit (n := 4) (k := 4) (by decide) (by decide)) fun e he => ?_
    obtain ⟨N, hN, rfl⟩ := he
    simp only [rng_nat (small62 (show N ≤ 1000 by omega)), rb]
    refine ok_seq (ok_range (fun j s => ∃ ps : List (D × List Nat), ps.length = j ∧ (∀ p ∈ ps, StepOk mm mn (fun _ _ => False) p) ∧ s = ps.map (·.1)) ⟨[], rfl, (by simp), rfl⟩ (fun j s hj hs => ?_) fun s hs => ?_)
    · obtain ⟨ps, hl, hp, rfl⟩ := hs
      simp only [eq_int, rb, bool_b]
      by_cases hm : (mm : Int) = 0
      · simp only [hm, decide_true, if_true]
        exact ok_ret ⟨nothingL, [], by decide, (by simp), rfl, rfl⟩
      · simp only [hm, decide_false, Bool.false_eq_true, if_false, gt_int, bool_b, rb]
        simp only [show decide ((0 : Int) < ((0 : Nat) : Int)) = false from rfl, Bool.false_eq_true, if_false, rb, seq_nx]
        rw [eq_yes (k := 1) pl_nilT (by decide)]
        simp only [rb, bool_b, if_true]
        refine ok_step (draw_pos (by omega)) fun e he => ?_
        obtain ⟨m, m0, m1, rfl⟩ := he
        obtain ⟨m, rfl⟩ := Int.eq_ofNat_of_zero_le m0
        rw [app_ok (by rw [List.length_map]; omega)]
        simp only [rb, okr]
        refine ⟨ps ++ [(stepX m, mn m)], by rw [List.length_append, hl]; rfl, fun p hp' => ?_, by rw [List.map_append, lit_do]; rfl⟩
        rcases List.mem_append.mp hp' with h | h
        · exact hp p h
        · rw [List.mem_singleton] at h
          exact .inl ⟨m, by omega, h⟩
    · obtain ⟨ps, hl, hp, rfl⟩ := hs
      simp only [tuple_l, rb, okr]
      exact ⟨_, ps, by omega, hp, rfl, rfl⟩
  | succ d ih =>
    intro f hf hd
    obtain ⟨f, rfl⟩ : ∃ g, f = g + 1 := ⟨f - 1, by omega⟩
    unfold m_law_run o_law_run
    refine ok_end ?_
    simp only [rb, R.bind_assoc]
    refine ok_step (draw_lit (n := 4) (k := 4) (by decide) (by decide)) fun e he => ?_
    obtain ⟨N, hN, rfl⟩ := he
    simp only [rng_nat (small62 (show N ≤ 1000 by omega)), rb]
    refine ok_seq (ok_range (fun j s => ∃ ps : List (D × List Nat), ps.length = j ∧ (∀ p ∈ ps, StepOk mm mn (RunOk mm mn d) p) ∧ s = ps.map (·.1)) ⟨[], rfl, (by simp), rfl⟩ (fun j s hj hs => ?_) fun s hs => ?_)
    · obtain ⟨ps, hl, hp, rfl⟩ := hs
      simp only [eq_int, rb, bool_b]
      by_cases hm : (mm : Int) = 0
      · simp only [hm, decide_true, if_true]
        exact ok_ret ⟨nothingL, [], by decide, (by simp), rfl, rfl⟩
      · simp only [hm, decide_false, Bool.false_eq_true, if_false, gt_int, bool_b, rb]
        rw [decide_eq_true (show (0 : Int) < ((d + 1 : Nat) : Int) by omega)]
        simp only [if_true]
        refine ok_step (P := fun _ : Bool => True) ?_ fun q _ => ?_
        · refine ok_step (draw_pos (by decide)) fun e he => ?_
          obtain ⟨z, _, _, rfl⟩ := he
          simp only [eq_int, rb, bool_b]
          exact ok_ret trivial
        refine ok_seqP' (P := fun i => i = .tuple [] ∨ ∃ t, RunOk mm mn d i t) ?_ fun i hi => ?_
        · cases q with
          | false =>
            simp only [Bool.false_eq_true, if_false]
            exact ok_ret ⟨_, rfl, .inl rfl⟩
          | true =>
            simp only [if_true, sub_int, rb]
            rw [show ((d + 1 : Nat) : Int) - 1 = (d : Int) by omega]
            refine ok_step (ih f (by omega) (by omega)) fun i hi => ?_
            exact ok_ret ⟨_, rfl, .inr hi⟩
        · have ei : eqR i (.tuple []) = R.ret (.bool (nilB i)) := by
            rcases hi with rfl | ⟨t, ht⟩
            · exact eq_yes (k := 1) pl_nilT (by decide)
            · exact eq_run (by omega) ht
          simp only [ei, rb, bool_b]
          by_cases qi : i = .tuple []
          · simp only [nilB_yes.mpr qi, if_true]
            refine ok_step (draw_pos (by omega)) fun e he => ?_
            obtain ⟨m, m0, m1, rfl⟩ := he
            obtain ⟨m, rfl⟩ := Int.eq_ofNat_of_zero_le m0
            rw [app_ok (by rw [List.length_map]; omega)]
            simp only [rb, okr]
            refine ⟨ps ++ [(stepX m, mn m)], by rw [List.length_append, hl]; rfl, fun p hp' => ?_, by rw [List.map_append, lit_do]; rfl⟩
            rcases List.mem_append.mp hp' with h | h
            · exact hp p h
            · rw [List.mem_singleton] at h
              exact .inl ⟨m, by omega, h⟩
          · simp only [nilB_no qi, Bool.false_eq_true, if_false]
            refine ok_step (draw_pos (n := ((big30 : Nat) : Int)) (Int.natCast_pos.mpr (by decide))) fun e he => ?_
            obtain ⟨m, m0, m1, rfl⟩ := he
            obtain ⟨m, rfl⟩ := Int.eq_ofNat_of_zero_le m0
            simp only [add_int, rb]
            rw [app_ok (by rw [List.length_map]; omega)]
            simp only [rb, okr]
            obtain ⟨t, ht⟩ : ∃ t, RunOk mm mn d i t := hi.resolve_left qi
            refine ⟨ps ++ [(repX (m + 1) i, repT (m + 1) t)], by rw [List.length_append, hl]; rfl, fun p hp' => ?_, ?_⟩
            · rcases List.mem_append.mp hp' with h | h
              · exact hp p h
              · rw [List.mem_singleton] at h
                exact .inr ⟨m + 1, i, t, by omega, by omega, ht, qi, h⟩
            · rw [List.map_append, lit_repw]
              show _ = ps.map (·.1) ++ [repX (m + 1) i]
              unfold repX
              rw [show ((m + 1 : Nat) : Int) = 1 + (m : Int) by omega]
    · obtain ⟨ps, hl, hp, rfl⟩ := hs
      simp only [tuple_l, rb, okr]
      exact ⟨_, ps, by omega, hp, rfl, rfl⟩
/-! lengths, signs -/
def Bd : Nat → Nat
  | 0 => 42
  | d + 1 => 3 * (Bd d + 40)
theorem Bd_mono : ∀ d, Bd d ≤ Bd (d + 1) := fun d => by show Bd d ≤ 3 * (Bd d + 40); omega
theorem bd42 : ∀ d, 42 ≤ Bd d
  | 0 => Nat.le_refl _
  | d + 1 => Nat.le_trans (bd42 d) (Bd_mono d)
theorem Bd4 : ∀ d, d ≤ 4 → Bd d ≤ 8202
  | 0, _ => by decide
  | 1, _ => by decide
  | 2, _ => by decide
  | 3, _ => by decide
  | 4, _ => by decide
  | d + 5, h => by omega
theorem run_len (hmn : ∀ m, m < mm → NmOk (mn m)) : ∀ {d : Nat} {x : D} {t : List Nat}, RunOk mm mn d x t → t.length ≤ Bd d := by
  intro d
  have one : ∀ (B : Nat) (P : D → List Nat → Prop), (∀ x t, P x t → t.length ≤ B) → ∀ p, StepOk mm mn P p → p.2.length ≤ B + 36 := fun B P hP p hp => by
    rcases hp with ⟨m, hm, rfl⟩ | ⟨c, xi, ti, h1, h2, hr, _, rfl⟩
    · exact Nat.le_trans (hmn m hm).len.2 (by omega)
    · show (repT c ti).length ≤ _
      unfold repT
      have := hP xi ti hr
      have := num_len h2
      simp only [List.length_append, List.length_cons, List.length_nil]
      omega
  induction d with
  | zero =>
    rintro x t ⟨ps, hl, hs, _, rfl⟩
    unfold runT
    split
    · decide
    · refine Nat.le_trans (joinL_len _) ?_
      have := sumL_le (m := 2) (B := 12) (ls := ps.map (·.2)) fun l hl => by
        obtain ⟨p, hp, rfl⟩ := List.mem_map.mp hl
        rcases hs p hp with ⟨m, hm, rfl⟩ | ⟨c, xi, ti, h1, h2, hr, _, rfl⟩
        · exact (hmn m hm).len.2
        · exact hr.elim
      rw [List.length_map] at this
      show sumL 2 _ ≤ 42
      omega
  | succ d ih =>
    rintro x t ⟨ps, hl, hs, _, rfl⟩
    unfold runT
    have := bd42 d
    split
    · show 7 ≤ 3 * (Bd d + 40)
      omega
    · refine Nat.le_trans (joinL_len _) ?_
      have := sumL_le (m := 2) (B := Bd d + 36) (ls := ps.map (·.2)) fun l hl => by
        obtain ⟨p, hp, rfl⟩ := List.mem_map.mp hl
        exact one (Bd d) _ (fun x t h => ih h) p (hs p hp)
      rw [List.length_map] at this
      show sumL 2 _ ≤ 3 * (Bd d + 40)
      have h3 : ps.length * (Bd d + 36 + 2) ≤ 3 * (Bd d + 36 + 2) := Nat.mul_le_mul_right _ hl
      omega
theorem sg_join {S : List Nat} (hS : Sg S) : ∀ ls : List (List Nat), (∀ l ∈ ls, Sg l) → Sg (TL.joinL S ls)
  | [], _ => sg_nil
  | [p], h => h p List.mem_cons_self
  | p :: q :: r, h => (h p List.mem_cons_self).app (Sg.app hS (sg_join hS (q :: r) fun l hl => h l (List.mem_cons_of_mem _ hl)))
theorem run_sg (hmn : ∀ m, m < mm → NmOk (mn m)) : ∀ {d : Nat} {x : D} {t : List Nat}, RunOk mm mn d x t → Sg t := by
  intro d
  have key : ∀ (P : D → List Nat → Prop), (∀ x t, P x t → Sg t) → ∀ x t, RunOf mm mn P x t → Sg t := fun P hP x t ⟨ps, hl, hs, _, ht⟩ => by
    subst ht
    unfold runT
    split
    · exact sg_nothing
    · refine sg_join (by unfold Sg; decide) _ fun l hl => ?_
      obtain ⟨p, hp, rfl⟩ := List.mem_map.mp hl
      rcases hs p hp with ⟨m, hm, rfl⟩ | ⟨c, xi, ti, h1, h2, hr, _, rfl⟩
      · exact (hmn m hm).sg
      · exact Sg.app (Sg.app ((sg_num c).app (by unfold Sg; decide)) (hP _ _ hr)) (by unfold Sg; decide)
  induction d with
  | zero => exact fun h => key _ (fun _ _ z => z.elim) _ _ h
  | succ d ih => exact fun h => key _ (fun _ _ z => ih z) _ _ h
/-! printing -/
theorem forR_eqG {γ S B T : Type} {h : γ → D} {enc : List γ → S} {f : D → S → R (Out S S T)} {ks : List γ} (hf : ∀ k pre, k ∈ ks → (∃ post, ks = pre ++ k :: post) → f (h k) (enc pre) = R.ret (.nx (enc (pre ++ [k])))) : ∀ (rest done : List γ), done ++ rest = ks → (forR f (rest.map h) (enc done) : R (Out S B T)) = R.ret (.nx (enc ks))
  | [], done, e => by
    rw [List.append_nil] at e
    rw [e]
    rfl
  | k :: rest, done, e => by
    rw [List.map_cons]
    unfold forR
    rw [hf k done (by rw [← e]; simp) ⟨rest, e.symm⟩]
    simp only [rb]
    exact forR_eqG hf rest (done ++ [k]) (by rw [List.append_assoc]; exact e)
theorem mv_name (T : BkT b kn mn) {m : Nat} (hm : m < b.mm) : (ixR (.tuple b.moves) (.int (m : Int))).bind (fun x => ixR x (.int 0)) = R.ret (tD (mn m)) := by
  rw [show ixR (.tuple b.moves) (.int (m : Int)) = R.ret (b.move m) from ix_tup (ix_rng (β := D) hm), rb, T.move hm]
  exact ix0
theorem words_eq (T : BkT b kn mn) {P : D → List Nat → Prop} {rec : D → D → R D} {B : Nat} (hB : B ≤ 10000) (hP : ∀ xi ti, P xi ti → rec b.d xi = R.ret (tD ti) ∧ ti.length ≤ B) {p : D × List Nat} (hp : StepOk b.mm mn P p) {pre : List (List Nat)} (hl : pre.length ≤ 1000) :
    ((ixR p.1 (.int 0)).bind fun x => (eqR x (.str "do")).bind fun a => (boolR a).bind fun c => if c = true then ((ixR b.d (.int 1)).bind fun x => (ixR p.1 (.int 1)).bind fun y => (ixR x y).bind fun x => (ixR x (.int 0)).bind fun d => (appR (pre.map tD) d).bind fun v_words => R.ret (Out.nx v_words)) else
      ((ixR p.1 (.int 1)).bind fun x => (strI x).bind fun x => (addR x (.str " x (")).bind fun x => (ixR p.1 (.int 2)).bind fun y => (rec b.d y).bind fun y => (addR x y).bind fun x => (addR x (.str ")")).bind fun d => (appR (pre.map tD) d).bind fun v_words => R.ret (Out.nx v_words)) : R (Out (List D) (List D) Unit)) = R.ret (.nx ((pre ++ [p.2]).map tD)) := by
  have app : ∀ l : List Nat, appR (pre.map tD) (tD l) = R.ret ((pre ++ [l]).map tD) := fun l => by
    rw [app_ok (by rw [List.length_map]; omega), List.map_append]
    rfl
  rcases hp with ⟨m, hm, rfl⟩ | ⟨c, xi, ti, h1, h2, hr, _, rfl⟩
  · have e := mv_name T hm
    have i0 : ixR (stepX m) (.int 0) = R.ret (tD doL) := ix0
    have i1 : ixR (stepX m) (.int 1) = R.ret (.int (m : Int)) := ix1
    simp only [i0, rb, lit_do, eq_tx sg_do sg_do, decide_true, bool_b, if_true, BkT.i1, i1]
    have e2 := congrArg (fun r => R.bind r fun d => (appR (pre.map tD) d).bind fun v_words => (R.ret (Out.nx v_words) : R (Out (List D) (List D) Unit))) e
    simp only [R.bind_assoc, rb] at e2
    rw [e2, app]
    rfl
  · obtain ⟨hrec, hlen⟩ := hP xi ti hr
    have i0 : ixR (repX c xi) (.int 0) = R.ret (tD repL) := ix0
    have i1 : ixR (repX c xi) (.int 1) = R.ret (.int (c : Int)) := ix1
    have i2 : ixR (repX c xi) (.int 2) = R.ret xi := ix2
    have nl := num_len h2
    have sn : strI (.int (c : Int)) = R.ret (tD (numL c)) := by
      have := num_sg_eq (z := (c : Int)) (by omega) (by omega)
      rwa [Int.toNat_natCast] at this
    simp only [i0, rb, lit_do, eq_tx sg_repw sg_do, show decide (repL = doL) = false from rfl, bool_b, Bool.false_eq_true, if_false, i1, i2, sn, hrec, lit_rep, lit_close]
    rw [add_tx (by show _ + 4 ≤ 1000000; omega), rb, add_tx (by rw [List.length_append]; show _ + 4 + _ ≤ 1000000; omega), rb, add_tx (by rw [List.length_append, List.length_append]; show _ + 4 + _ + 1 ≤ 1000000; omega), rb]
    rw [show numL c ++ [32, 120, 32, 40] ++ ti ++ [41] = repT c ti from rfl, app]
    rfl
theorem runs_print (T : BkT b kn mn) : ∀ (d f : Nat), d < f → d ≤ 4 → ∀ {x : D} {t : List Nat}, RunOk b.mm mn d x t → m_print_run f b.d x = R.ret (tD t) ∧ m_law_run_text f b.d x = R.ret (tD t) := by
  intro d
  have key : ∀ (P : D → List Nat → Prop) (f B : Nat) (x : D) (t : List Nat), B ≤ 10000 → (∀ xi ti, P xi ti → (m_print_run f b.d xi = R.ret (tD ti) ∧ m_law_run_text f b.d xi = R.ret (tD ti)) ∧ ti.length ≤ B) → RunOf b.mm mn P x t → eqR x (.tuple []) = R.ret (.bool (nilB x)) → (∀ xi ti, P xi ti → Sg ti) → m_print_run (f + 1) b.d x = R.ret (tD t) ∧ m_law_run_text (f + 1) b.d x = R.ret (tD t) := fun P f B x t hB hP ⟨ps, hl, hs, hx, ht⟩ heq hsg => by
    subst hx ht
    have nil1 : (PyData.tuple (ps.map (·.1)) = .tuple []) ↔ ps = [] := ⟨fun z => by injection z with z; exact List.map_eq_nil_iff.mp z, fun z => by rw [z]; rfl⟩
    have sl : ps ≠ [] → ∀ rec : D → D → R D, (∀ xi ti, P xi ti → rec b.d xi = R.ret (tD ti)) → sumL 2 (ps.map (·.2)) ≤ tMax := fun _ rec hrec => by
      have := sumL_le (m := 2) (B := B + 36) (ls := ps.map (·.2)) fun l hl => by
        obtain ⟨p, hp, rfl⟩ := List.mem_map.mp hl
        rcases hs p hp with ⟨m, hm, rfl⟩ | ⟨c, xi, ti, h1, h2, hr, _, rfl⟩
        · exact Nat.le_trans (T.N.mok m hm).len.2 (by omega)
        · show (repT c ti).length ≤ _
          unfold repT
          have := (hP xi ti hr).2
          have := num_len h2
          simp only [List.length_append, List.length_cons, List.length_nil]
          omega
      rw [List.length_map] at this
      have h3 : ps.length * (B + 36 + 2) ≤ 3 * (B + 36 + 2) := Nat.mul_le_mul_right _ hl
      unfold tMax
      omega
    constructor
    · unfold m_print_run o_print_run endR0
      simp only [rb, R.bind_assoc, heq, bool_b, lit_nothing, lit_semis, strR_tx, items_t]
      by_cases q : ps = []
      · subst q
        rfl
      · rw [nilB_no fun z => q (nil1.mp z)]
        simp only [Bool.false_eq_true, if_false]
        refine (congrArg (fun r => (seqR r _).bind outD) (forR_eqG (h := fun p : D × List Nat => p.1) (enc := fun pre : List (D × List Nat) => (pre.map (·.2)).map tD) (ks := ps) (fun p pre hp hpre => ?_) ps [] rfl)).trans ?_
        · have := words_eq T (rec := m_print_run f) hB (fun xi ti h => ⟨(hP xi ti h).1.1, (hP xi ti h).2⟩) (hs p hp) (pre := pre.map (·.2)) (by
            obtain ⟨post, hpost⟩ := hpre
            have := congrArg List.length hpost
            rw [List.length_append] at this
            rw [List.length_map]
            omega)
          refine this.trans ?_
          rw [List.map_append (f := fun p : D × List Nat => p.2)]
          rfl
        · simp only [seq_nx, join_tx (S := [59, 32]) (sl q (m_print_run f) fun xi ti h => (hP xi ti h).1.1), rb]
          unfold runT
          rw [if_neg fun z => q (List.map_eq_nil_iff.mp z)]
          rfl
    · unfold m_law_run_text o_law_run_text endR0
      simp only [rb, R.bind_assoc, lit_nothing, lit_semis, strR_tx, items_t]
      refine (congrArg (fun r => (seqR r _).bind outD) (forR_eqG (h := fun p : D × List Nat => p.1) (enc := fun pre : List (D × List Nat) => (pre.map (·.2)).map tD) (ks := ps) (fun p pre hp hpre => ?_) ps [] rfl)).trans ?_
      · have := words_eq T (rec := m_law_run_text f) hB (fun xi ti h => ⟨(hP xi ti h).1.2, (hP xi ti h).2⟩) (hs p hp) (pre := pre.map (·.2)) (by
          obtain ⟨post, hpost⟩ := hpre
          have := congrArg List.length hpost
          rw [List.length_append] at this
          rw [List.length_map]
          omega)
        refine this.trans ?_
        rw [List.map_append (f := fun p : D × List Nat => p.2)]
        rfl
      · simp only [seq_nx]
        by_cases q : ps = []
        · subst q
          rfl
        · have sgp : ∀ l ∈ ps.map (·.2), Sg l := fun l hl => by
            obtain ⟨p, hp, rfl⟩ := List.mem_map.mp hl
            rcases hs p hp with ⟨m, hm, rfl⟩ | ⟨c, xi, ti, h1, h2, hr, _, rfl⟩
            · exact (T.N.mok m hm).sg
            · exact Sg.app (Sg.app ((sg_num c).app (by unfold Sg; decide)) (hsg _ _ hr)) (by unfold Sg; decide)
          have ne : (ps.map (·.2)).isEmpty = false := by
            cases ps with
            | nil => exact absurd rfl q
            | cons p r => rfl
          simp only [eq_lnil sgp, ne, rb, bool_b, Bool.false_eq_true, if_false, join_tx (S := [59, 32]) (sl q (m_print_run f) fun xi ti h => (hP xi ti h).1.1)]
          unfold runT
          rw [if_neg fun z => q (List.map_eq_nil_iff.mp z)]
          rfl
  induction d with
  | zero =>
    intro f hf _ x t h
    obtain ⟨f, rfl⟩ : ∃ g, f = g + 1 := ⟨f - 1, by omega⟩
    exact key _ f 0 x t (by decide) (fun _ _ z => z.elim) h (eq_run (d := 0) (by decide) h) fun _ _ z => z.elim
  | succ d ih =>
    intro f hf hd x t h
    obtain ⟨f, rfl⟩ : ∃ g, f = g + 1 := ⟨f - 1, by omega⟩
    exact key _ f (Bd d) x t (Nat.le_trans (Bd4 d (by omega)) (by decide)) (fun xi ti z => ⟨ih f (by omega) (by omega) z, run_len T.N.mok z⟩) h (eq_run (d := d + 1) (by omega) h) fun _ _ z => run_sg T.N.mok z
end
/-! Runs: read. -/
section
open TL (numL numL_lt numL_step numL_digits numL_ne numL_len spl spl_part1 spl_last1)
variable {b : Bk} {kn mn : Nat → List Nat} {d : Nat} {x : D} {t : List Nat} {mm : Nat} {L l P Q : List Nat}
/-- what a sign does to the level -/
def lv1 (c : Nat) : Int := if c = 40 then 1 else if c = 41 then -1 else 0
def lvl : List Nat → Int
  | [] => 0
  | c :: r => lv1 c + lvl r
theorem lvl_app : ∀ a b : List Nat, lvl (a ++ b) = lvl a + lvl b
  | [], b => by show lvl b = 0 + lvl b; omega
  | c :: a, b => by
    show lv1 c + lvl (a ++ b) = lv1 c + lvl a + lvl b
    rw [lvl_app a b]
    omega
theorem lvl_free (h1 : 40 ∉ l) (h2 : 41 ∉ l) : lvl l = 0 := by
  induction l with
  | nil => rfl
  | cons c r ih =>
    have := ih (fun z => h1 (List.mem_cons_of_mem _ z)) fun z => h2 (List.mem_cons_of_mem _ z)
    show lv1 c + lvl r = 0
    unfold lv1
    rw [if_neg (show ¬ c = 40 from fun z => h1 (z ▸ List.mem_cons_self)), if_neg (show ¬ c = 41 from fun z => h2 (z ▸ List.mem_cons_self)), this]
    rfl
/-- parentheses that fit -/
structure Bal (l : List Nat) : Prop where
  nn : ∀ i, 0 ≤ lvl (l.take i)
  z : lvl l = 0
/-- a step's text: no semicolon outside of parentheses -/
structure Wrd (l : List Nat) : Prop where
  z : lvl l = 0
  nn : ∀ i, 0 ≤ lvl (l.take i)
  semi : ∀ i, l[i]? = some 59 → 1 ≤ lvl (l.take i)
theorem take_free {i : Nat} {s : Nat} (h : s ∉ l) : s ∉ l.take i := fun z => h (List.mem_of_mem_take z)
theorem wrd_name (h : NmOk l) : Wrd l := ⟨lvl_free (h.free (by omega)) (h.free (by omega)), fun i => by rw [lvl_free (take_free (h.free (by omega))) (take_free (h.free (by omega)))]; exact Int.le_refl _, fun i hi => absurd (List.mem_of_getElem? hi) (h.free (by omega))⟩
theorem wrd_rep {c : Nat} (h : Bal t) : Wrd (repT c t) := by
  have n40 : 40 ∉ numL c := TL.numL_free (by omega)
  have n41 : 41 ∉ numL c := TL.numL_free (by omega)
  have n59 : 59 ∉ numL c := TL.numL_free (by omega)
  have e : repT c t = (numL c ++ [32, 120, 32]) ++ ([40] ++ (t ++ [41])) := by
    unfold repT
    simp only [List.append_assoc, List.cons_append, List.nil_append]
  have hd40 : 40 ∉ numL c ++ [32, 120, 32] := fun z => by
    rcases List.mem_append.mp z with z | z
    · exact n40 z
    · exact absurd z (by decide)
  have hd41 : 41 ∉ numL c ++ [32, 120, 32] := fun z => by
    rcases List.mem_append.mp z with z | z
    · exact n41 z
    · exact absurd z (by decide)
  have hd59 : 59 ∉ numL c ++ [32, 120, 32] := fun z => by
    rcases List.mem_append.mp z with z | z
    · exact n59 z
    · exact absurd z (by decide)
  rw [e]
  generalize numL c ++ [32, 120, 32] = hd at hd40 hd41 hd59
  have lz : lvl hd = 0 := lvl_free hd40 hd41
  -- the level ahead of a place
  have at' : ∀ i, lvl ((hd ++ ([40] ++ (t ++ [41]))).take i) = if i ≤ hd.length then 0 else if i ≤ hd.length + 1 + t.length then 1 + lvl (t.take (i - hd.length - 1)) else 0 := by
    intro i
    by_cases h1 : i ≤ hd.length
    · rw [if_pos h1, List.take_append_of_le_length h1, lvl_free (take_free hd40) (take_free hd41)]
    · rw [if_neg h1, List.take_append, List.take_of_length_le (Nat.le_of_lt (Nat.lt_of_not_le h1)), lvl_app, lz]
      obtain ⟨j, hj⟩ : ∃ j, i - hd.length = j + 1 := ⟨i - hd.length - 1, by omega⟩
      rw [hj]
      have e2 : ([40] ++ (t ++ [41])).take (j + 1) = 40 :: (t ++ [41]).take j := rfl
      rw [e2]
      show 0 + (lv1 40 + lvl ((t ++ [41]).take j)) = _
      have l40 : lv1 40 = 1 := rfl
      rw [l40]
      by_cases h2 : j ≤ t.length
      · rw [if_pos (by omega), List.take_append_of_le_length h2, show j + 1 - 1 = j from rfl]
        omega
      · rw [if_neg (by omega), List.take_of_length_le (by rw [List.length_append]; simp only [List.length_cons, List.length_nil]; omega), lvl_app, h.z]
        rfl
  refine ⟨?_, fun i => ?_, fun i hi => ?_⟩
  · rw [lvl_app, lz]
    show 0 + (lv1 40 + lvl (t ++ [41])) = 0
    rw [lvl_app, h.z]
    rfl
  · rw [at' i]
    have := h.nn (i - hd.length - 1)
    split
    · exact Int.le_refl _
    · split
      · omega
      · exact Int.le_refl _
  · rw [at' i]
    have hi1 : ¬ i < hd.length := fun z => by
      rw [List.getElem?_append_left z] at hi
      exact hd59 (List.mem_of_getElem? hi)
    rw [List.getElem?_append_right (by omega)] at hi
    have hj : i - hd.length ≠ 0 := fun z => by
      rw [z] at hi
      exact absurd hi (by simp)
    obtain ⟨j, hj⟩ : ∃ j, i - hd.length = j + 1 := ⟨i - hd.length - 1, by omega⟩
    rw [hj] at hi
    have hi : (t ++ [41])[j]? = some 59 := hi
    have hjl : j < t.length := by
      by_cases z : j < t.length
      · exact z
      · rw [List.getElem?_append_right (by omega)] at hi
        cases q : j - t.length with
        | zero => rw [q] at hi; exact absurd hi (by simp)
        | succ k => rw [q] at hi; exact absurd hi (by simp)
    rw [if_neg (by omega), if_pos (by omega)]
    have := h.nn (i - hd.length - 1)
    omega
theorem bal_join : ∀ {ls : List (List Nat)}, (∀ l ∈ ls, Wrd l) → Bal (TL.joinL [59, 32] ls)
  | [], _ => ⟨fun i => by show 0 ≤ lvl (([] : List Nat).take i); rw [List.take_nil]; exact Int.le_refl _, rfl⟩
  | [p], h => ⟨(h p List.mem_cons_self).nn, (h p List.mem_cons_self).z⟩
  | p :: q :: r, h => by
    have hp := h p List.mem_cons_self
    have ih := bal_join (ls := q :: r) fun l hl => h l (List.mem_cons_of_mem _ hl)
    have lsep : ∀ i, lvl (([59, 32] : List Nat).take i) = 0 := fun i => lvl_free (take_free (by decide)) (take_free (by decide))
    unfold TL.joinL
    refine ⟨fun i => ?_, ?_⟩
    · rw [List.take_append, List.take_append, lvl_app, lvl_app, lsep]
      have := hp.nn i
      have := ih.nn (i - p.length - [59, 32].length)
      omega
    · rw [lvl_app, lvl_app, hp.z, ih.z]
      rfl
theorem bal_nothing : Bal nothingL := ⟨fun i => by rw [lvl_free (take_free (by decide)) (take_free (by decide))]; exact Int.le_refl _, rfl⟩
theorem run_bal (hmn : ∀ m, m < mm → NmOk (mn m)) : ∀ {d : Nat} {x : D} {t : List Nat}, RunOk mm mn d x t → Bal t := by
  intro d
  have key : ∀ (P : D → List Nat → Prop), (∀ x t, P x t → Bal t) → ∀ x t, RunOf mm mn P x t → Bal t := fun P hP x t ⟨ps, hl, hs, _, ht⟩ => by
    subst ht
    unfold runT
    split
    · exact bal_nothing
    · refine bal_join fun l hl => ?_
      obtain ⟨p, hp, rfl⟩ := List.mem_map.mp hl
      rcases hs p hp with ⟨m, hm, rfl⟩ | ⟨c, xi, ti, h1, h2, hr, _, rfl⟩
      · exact wrd_name (hmn m hm)
      · exact wrd_rep (hP _ _ hr)
  induction d with
  | zero => exact fun h => key _ (fun _ _ z => z.elim) _ _ h
  | succ d ih => exact fun h => key _ (fun _ _ z => ih z) _ _ h
/-! cutting a text into steps -/
abbrev Scan := List (List Nat) × Int × Nat
def stp (L : List Nat) (s : Scan) (k : Nat) : Scan := match L[k]? with
  | some c => if c = 40 then (s.1, s.2.1 + 1, s.2.2) else if c = 41 then (s.1, s.2.1 - 1, s.2.2) else if c = 59 ∧ s.2.1 = 0 ∧ (L.drop k).take 2 = [59, 32] then (s.1 ++ [(L.drop s.2.2).take (k - s.2.2)], s.2.1, k + 2) else s
  | none => s
def scn (L : List Nat) (s : Scan) (a n : Nat) : Scan := (List.range' a n).foldl (stp L) s
theorem scn_succ {s : Scan} {a n : Nat} : scn L s a (n + 1) = stp L (scn L s a n) (a + n) := by
  unfold scn
  rw [List.range'_1_concat, List.foldl_append]
  rfl
theorem scn_add {s : Scan} {a m n : Nat} : scn L s a (m + n) = scn L (scn L s a m) (a + m) n := by
  induction n with
  | zero => rfl
  | succ n ih => rw [← Nat.add_assoc, scn_succ, ih, scn_succ, Nat.add_assoc]
theorem scn_word (hL : L = P ++ l ++ Q) (W : Wrd l) {ws : List (List Nat)} : ∀ i, i ≤ l.length → scn L (ws, 0, P.length) P.length i = (ws, lvl (l.take i), P.length)
  | 0, _ => by rw [List.take_zero]; rfl
  | i + 1, hi => by
    rw [scn_succ, scn_word hL W i (by omega)]
    have hi' : i < l.length := hi
    have e : L[P.length + i]? = some l[i] := by
      rw [hL, List.append_assoc, List.getElem?_append_right (by omega), show P.length + i - P.length = i by omega, List.getElem?_append_left hi', List.getElem?_eq_getElem hi']
    have tk : l.take (i + 1) = l.take i ++ [l[i]] := List.take_succ_eq_append_getElem hi'
    have lv : lvl (l.take (i + 1)) = lvl (l.take i) + lv1 l[i] := by
      rw [tk, lvl_app]
      show lvl (l.take i) + (lv1 l[i] + 0) = _
      omega
    have sm := W.semi i
    rw [List.getElem?_eq_getElem hi'] at sm
    unfold stp
    rw [e, lv]
    generalize l[i] = c at sm
    unfold lv1
    by_cases h1 : c = 40
    · simp only [h1, if_true]
    · by_cases h2 : c = 41
      · simp only [h2, if_true, if_neg (show ¬ (41 = 40) by decide)]
        rfl
      · simp only [if_neg h1, if_neg h2]
        rw [if_neg]
        · rw [Int.add_zero]
        · rintro ⟨h3, h4, _⟩
          have := sm (by rw [h3])
          omega
theorem scn_sep (hL : L = P ++ l ++ ([59, 32] ++ Q)) (W : Wrd l) {ws : List (List Nat)} : scn L (ws, 0, P.length) P.length (l.length + 2) = (ws ++ [l], 0, P.length + l.length + 2) := by
  have h1 := scn_word (Q := [59, 32] ++ Q) hL W (ws := ws) l.length (Nat.le_refl _)
  rw [List.take_length, W.z] at h1
  rw [show l.length + 2 = (l.length + 1) + 1 from rfl, scn_succ, scn_succ, h1]
  have dr : L.drop (P.length + l.length) = [59, 32] ++ Q := by
    rw [hL, ← List.length_append, List.drop_left]
  have e1 : L[P.length + l.length]? = some 59 := by
    have := List.getElem?_drop (xs := L) (i := P.length + l.length) (j := 0)
    rw [dr] at this
    rw [Nat.add_zero] at this
    exact this.symm
  have e2 : L[P.length + (l.length + 1)]? = some 32 := by
    have := List.getElem?_drop (xs := L) (i := P.length + l.length) (j := 1)
    rw [dr] at this
    rw [← Nat.add_assoc]
    exact this.symm
  have w : (L.drop P.length).take (P.length + l.length - P.length) = l := by
    rw [hL, List.append_assoc, List.drop_left, show P.length + l.length - P.length = l.length by omega, List.take_left]
  have s1 : stp L (ws, 0, P.length) (P.length + l.length) = (ws ++ [l], 0, P.length + l.length + 2) := by
    unfold stp
    rw [e1]
    simp only
    rw [if_neg (by decide), if_neg (by decide), if_pos ⟨trivial, trivial, by rw [dr]; rfl⟩, w]
  rw [s1]
  unfold stp
  rw [e2]
  simp only
  rw [if_neg (by decide), if_neg (by decide), if_neg (by rintro ⟨z, _⟩; cases z)]
theorem scn_join : ∀ (ls : List (List Nat)) (P : List Nat) (ws : List (List Nat)), ls ≠ [] → (∀ l ∈ ls, Wrd l) → L = P ++ TL.joinL [59, 32] ls → ∃ bg, scn L (ws, 0, P.length) P.length (TL.joinL [59, 32] ls).length = ((scn L (ws, 0, P.length) P.length (TL.joinL [59, 32] ls).length).1, 0, bg) ∧ (scn L (ws, 0, P.length) P.length (TL.joinL [59, 32] ls).length).1 ++ [L.drop bg] = ws ++ ls
  | [], _, _, h, _, _ => absurd rfl h
  | [l], P, ws, _, hw, hL => by
    have h1 := scn_word (L := L) (P := P) (Q := []) (by rw [List.append_nil]; exact hL) (hw l List.mem_cons_self) (ws := ws) l.length (Nat.le_refl _)
    rw [List.take_length, (hw l List.mem_cons_self).z] at h1
    refine ⟨P.length, ?_, ?_⟩
    · show scn L (ws, 0, P.length) P.length l.length = _
      rw [show (TL.joinL [59, 32] [l]).length = l.length from rfl, h1]
    · rw [show (TL.joinL [59, 32] [l]).length = l.length from rfl, h1]
      show ws ++ [L.drop P.length] = ws ++ [l]
      rw [hL, List.drop_left]
      rfl
  | l :: m :: r, P, ws, _, hw, hL => by
    have e : TL.joinL [59, 32] (l :: m :: r) = l ++ ([59, 32] ++ TL.joinL [59, 32] (m :: r)) := rfl
    rw [e] at hL ⊢
    have hs := scn_sep (L := L) (P := P) (l := l) (Q := TL.joinL [59, 32] (m :: r)) (by rw [List.append_assoc]; exact hL) (hw l List.mem_cons_self) (ws := ws)
    have len : (l ++ ([59, 32] ++ TL.joinL [59, 32] (m :: r))).length = (l.length + 2) + (TL.joinL [59, 32] (m :: r)).length := by
      rw [List.length_append, List.length_append]
      show l.length + (2 + _) = _
      omega
    rw [len, scn_add, hs]
    have pl : (P ++ l ++ [59, 32]).length = P.length + l.length + 2 := by rw [List.length_append, List.length_append]; rfl
    obtain ⟨bg, h1, h2⟩ := scn_join (m :: r) (P ++ l ++ [59, 32]) (ws ++ [l]) (by simp) (fun x hx => hw x (List.mem_cons_of_mem _ hx)) (by rw [hL]; simp only [List.append_assoc])
    rw [pl] at h1 h2
    rw [show P.length + (l.length + 2) = P.length + l.length + 2 by omega]
    exact ⟨bg, h1, by rw [h2]; simp⟩
def encS (s : Scan) : List D × D × D := (s.1.map tD, .int s.2.1, .int (s.2.2 : Int))
theorem scn_words (L : List Nat) : ∀ n, (scn L ([], 0, 0) 0 n).1.length ≤ n
  | 0 => Nat.le_refl _
  | n + 1 => by
    rw [scn_succ]
    have := scn_words L n
    unfold stp
    cases L[0 + n]? with
    | none => simp only; omega
    | some c =>
      simp only
      split
      · exact Nat.le_succ_of_le this
      · split
        · exact Nat.le_succ_of_le this
        · split
          · rw [List.length_append]; simp only [List.length_cons, List.length_nil]; omega
          · exact Nat.le_succ_of_le this
theorem split_steps_eq {ls : List (List Nat)} (hne : ls ≠ []) (hw : ∀ l ∈ ls, Wrd l) (hsg : ∀ l ∈ ls, Sg l) (hl : (TL.joinL [59, 32] ls).length ≤ 10000) : m_split_steps (tD (TL.joinL [59, 32] ls)) = R.ret (.list (ls.map tD)) := by
  have sgL : Sg (TL.joinL [59, 32] ls) := sg_join (by unfold Sg; decide) ls hsg
  obtain ⟨bg, h1, h2⟩ := scn_join (L := TL.joinL [59, 32] ls) ls [] [] hne hw rfl
  generalize hL : TL.joinL [59, 32] ls = L at *
  have hlm : L.length ≤ tMax := Nat.le_trans hl (by decide)
  unfold m_split_steps o_split_steps endR0
  simp only [rb, R.bind_assoc, len_tx hlm, rng_nat (show L.length < 4611686018427387904 by omega)]
  rw [rangeL_nat]
  have key := forR_eq (S := List D × D × D) (B := Empty) (T := Unit) (h := fun t : Nat => PyData.int (t : Int)) (enc := fun pre : List Nat => encS (pre.foldl (stp L) ([], 0, 0))) (ks := List.range L.length)
    (f := fun v_k s1 => R.bind (R.bind (R.bind (R.ret (tD L)) fun x => R.bind (R.ret v_k) fun y => ixR x y) fun x => R.bind (R.ret (.str "(")) fun y => R.bind (eqR x y) boolR) fun b => if b = true then (R.bind (R.ret (.int 1)) fun y => R.bind (iaddR s1.2.1 y) fun v_level => R.ret (.nx (s1.1, v_level, s1.2.2))) else (R.bind (R.bind (R.bind (R.ret (tD L)) fun x => R.bind (R.ret v_k) fun y => ixR x y) fun x => R.bind (R.ret (.str ")")) fun y => R.bind (eqR x y) boolR) fun b => if b = true then (R.bind (R.ret (.int 1)) fun y => R.bind (subR s1.2.1 y) fun v_level => R.ret (.nx (s1.1, v_level, s1.2.2))) else (R.bind (R.bind (R.bind (R.bind (R.ret (tD L)) fun x => R.bind (R.ret v_k) fun y => ixR x y) fun x => R.bind (R.ret (.str ";")) fun y => R.bind (eqR x y) boolR) fun x => if x = true then (R.bind (R.bind (R.ret s1.2.1) fun x => R.bind (R.ret (.int 0)) fun y => R.bind (eqR x y) boolR) fun x => if x = true then (R.bind (R.bind (R.ret (tD L)) fun x => R.bind (R.bind (R.ret v_k) fun x => partR x) fun l => R.bind (R.bind (R.bind (R.ret v_k) fun x => R.bind (R.ret (.int 2)) fun y => addR x y) fun x => partR x) fun h => sliceR x l h) fun x => R.bind (R.ret (.str "; ")) fun y => R.bind (eqR x y) boolR) else R.ret false) else R.ret false) fun b => if b = true then (R.bind (R.bind (R.ret (tD L)) fun x => R.bind (R.bind (R.ret s1.2.2) fun x => partR x) fun l => R.bind (R.bind (R.ret v_k) fun x => partR x) fun h => sliceR x l h) fun d => R.bind (appR s1.1 d) fun v_words => R.bind (R.bind (R.ret v_k) fun x => R.bind (R.ret (.int 2)) fun y => addR x y) fun v_begin => R.ret (.nx (v_words, s1.2.1, v_begin))) else (R.ret (.nx (s1.1, s1.2.1, s1.2.2))))))
    (fun k pre hk hpre => by
      have hk := List.mem_range.mp hk
      have hpre2 : pre = List.range k := by
        obtain ⟨post, hp⟩ := hpre
        have h1 := congrArg (fun l : List Nat => l[pre.length]?) hp
        simp only [List.getElem?_append_right (Nat.le_refl _), Nat.sub_self, List.getElem?_cons_zero] at h1
        have hl : pre.length < L.length := by
          have := congrArg List.length hp
          rw [List.length_range, List.length_append, List.length_cons] at this
          omega
        rw [List.getElem?_range hl] at h1
        have e : pre.length = k := by injection h1
        have h2 := congrArg (List.take pre.length) hp
        rw [List.take_left, List.take_range] at h2
        rw [← h2, e, Nat.min_eq_left (by omega)]
      have wl : (pre.foldl (stp L) (([], 0, 0) : Scan)).1.length ≤ k := by
        rw [hpre2, List.range_eq_range']
        exact scn_words L k
      rw [List.foldl_append]
      show _ = R.ret (Out.nx (encS (stp L (pre.foldl (stp L) ([], 0, 0)) k)))
      generalize pre.foldl (stp L) (([], 0, 0) : Scan) = s at wl
      obtain ⟨ws, lv, bg⟩ := s
      have wl : ws.length ≤ k := wl
      have ek := List.getElem?_eq_getElem hk
      have sgc : Sg [L[k]] := fun c hc => by
        rw [List.mem_singleton] at hc
        subst hc
        exact sgL _ (List.getElem_mem hk)
      have e2 : (k : Int) + 2 = ((k + 2 : Nat) : Int) := by omega
      have sgt : ∀ a b : Nat, Sg ((L.drop a).take b) := fun a b c hc => sgL c (List.mem_of_mem_drop (List.mem_of_mem_take hc))
      unfold stp encS
      rw [ek]
      simp only [rb, ix_tx ek hlm, lit_open, lit_close, lit_semi, lit_semis, eq_tx sgc (show Sg [40] by unfold Sg; decide), eq_tx sgc (show Sg [41] by unfold Sg; decide), eq_tx sgc (show Sg [59] by unfold Sg; decide), bool_b, R.bind_assoc]
      generalize L[k] = c
      have b1 : ∀ n : Nat, decide ([c] = [n]) = decide (c = n) := fun n => decide_eq_decide.mpr ⟨fun z => by injection z, fun z => by rw [z]⟩
      rw [b1, b1, b1]
      by_cases q1 : c = 40
      · simp only [q1, decide_true, if_true]
        rfl
      · simp only [q1, decide_false, Bool.false_eq_true, if_false]
        by_cases q2 : c = 41
        · simp only [q2, decide_true, if_true]
          rfl
        · simp only [q2, decide_false, Bool.false_eq_true, if_false]
          by_cases q3 : c = 59
          · simp only [q3, decide_true, if_true, eq_int, bool_b, rb, true_and]
            by_cases q4 : lv = 0
            · subst q4
              simp only [decide_true, if_true, add_int, e2, part_int, rb, slice_tnn hlm, show k + 2 - k = 2 by omega, eq_tx (sgt k 2) (show Sg [59, 32] by unfold Sg; decide), bool_b, true_and]
              by_cases q5 : (L.drop k).take 2 = [59, 32]
              · simp only [q5, decide_true, if_true]
                rw [app_ok (by rw [List.length_map]; omega), rb, List.map_append]
                rfl
              · simp only [q5, decide_false, Bool.false_eq_true, if_false]
            · simp only [q4, decide_false, Bool.false_eq_true, if_false, rb, false_and]
          · simp only [q3, decide_false, Bool.false_eq_true, if_false, rb, false_and]) (List.range L.length) [] rfl
  simp only [rb, R.bind_assoc] at key
  refine (congrArg (fun r => (seqR r _).bind outD) key).trans ?_
  have ef : (List.range L.length).foldl (stp L) (([], 0, 0) : Scan) = scn L ([], 0, 0) 0 L.length := by
    unfold scn
    rw [List.range_eq_range']
  rw [show List.length ([] : List Nat) = 0 from rfl] at h1 h2
  rw [ef, h1]
  rw [h1] at h2
  have wl := scn_words L L.length
  generalize (scn L ([], 0, 0) 0 L.length).1 = ws at h2 wl
  simp only [encS, seq_nx, part_int, rb, slice_tfrom hlm]
  rw [addl_ok (by rw [List.length_map]; simp only [List.length_cons, List.length_nil]; omega)]
  have h2 : ws ++ [L.drop bg] = ls := h2
  rw [← h2, List.map_append]
  rfl
end
/-! Runs: read back. -/
section
open TL (numL numL_lt numL_step numL_digits numL_ne numL_len spl spl_part1 spl_last1)
variable {b : Bk} {kn mn : Nat → List Nat} {d : Nat} {x : D} {t : List Nat}
theorem forR_skip {S B T : Type} {f : D → Unit → R (Out Unit Unit T)} {l2 : List D} : ∀ {l1 : List D}, (∀ x ∈ l1, f x () = R.ret (.nx ())) → (forR f (l1 ++ l2) () : R (Out Unit B T)) = forR f l2 ()
  | [], _ => rfl
  | x :: l1, h => by
    rw [List.cons_append]
    show ((f x ()).bind _ : R (Out Unit B T)) = _
    rw [h x List.mem_cons_self]
    exact forR_skip (S := S) fun y hy => h y (List.mem_cons_of_mem _ hy)
theorem move_index_eq (T : BkT b kn mn) {l : List Nat} (hl : Sg l) : (∀ m, m < b.mm → mn m = l → m_move_index b.d (tD l) = R.ret (.int (m : Int))) ∧ ((∀ m, m < b.mm → mn m ≠ l) → m_move_index b.d (tD l) = R.ret .none) := by
  have m8 := T.m8
  have mlen : b.moves.length = b.mm := Bk.moves_length b
  have step : ∀ m, m < b.mm → ∀ (g : Bool → R (Out Unit Unit Unit)), ((ixR b.d (.int 1)).bind fun x => (ixR x (.int (m : Int))).bind fun x => (ixR x (.int 0)).bind fun x => (eqR x (tD l)).bind fun a => (boolR a).bind g) = g (decide (mn m = l)) := fun m hm g => by
    have e := mv_name T hm
    simp only [BkT.i1, rb]
    have e2 := congrArg (fun r => R.bind r fun x => (eqR x (tD l)).bind fun a => (boolR a).bind g) e
    simp only [R.bind_assoc, rb] at e2
    rw [e2, eq_tx (T.N.mok m hm).sg hl, rb, bool_b, rb]
  constructor
  · intro m hm e
    unfold m_move_index o_move_index endR0
    simp only [rb, R.bind_assoc, BkT.i1, len_t, mlen, rng_nat (small62 (show b.mm ≤ 1000 by omega))]
    rw [rangeL_nat]
    have sp : (List.range b.mm).map (fun t : Nat => PyData.int (t : Int)) = (List.range m).map (fun t : Nat => PyData.int (t : Int)) ++ (PyData.int (m : Int) :: (List.range' (m + 1) (b.mm - m - 1)).map fun t : Nat => PyData.int (t : Int)) := by
      rw [← List.map_cons (f := fun t : Nat => PyData.int (t : Int)), ← List.map_append]
      congr 1
      rw [List.range_eq_range', List.range_eq_range', ← List.range'_succ, show b.mm - m - 1 + 1 = b.mm - m by omega]
      have := List.range'_append_1 (s := 0) (m := m) (n := b.mm - m)
      rw [Nat.zero_add] at this
      rw [this, show m + (b.mm - m) = b.mm by omega]
    rw [sp, forR_skip (S := Unit) (fun y hy => by
      obtain ⟨i, hi, rfl⟩ := List.mem_map.mp hy
      have hi := List.mem_range.mp hi
      have st := step i (by omega) (fun c => if c = true then R.ret (.rt (.int (i : Int)) ()) else R.ret (.nx ()))
      simp only [BkT.i1, rb] at st
      rw [st, decide_eq_false fun z => by
        have := T.N.minj i m (by omega) hm (z.trans e.symm)
        omega]
      rfl)]
    unfold forR
    have st := step m hm (fun c => if c = true then R.ret (.rt (.int (m : Int)) ()) else R.ret (.nx ()))
    simp only [BkT.i1, rb] at st
    rw [st, decide_eq_true e]
    rfl
  · intro hno
    unfold m_move_index o_move_index endR0
    simp only [rb, R.bind_assoc, BkT.i1, len_t, mlen, rng_nat (small62 (show b.mm ≤ 1000 by omega))]
    rw [rangeL_nat, ← List.append_nil ((List.range b.mm).map fun t : Nat => PyData.int (t : Int)), forR_skip (S := Unit) (fun y hy => by
      obtain ⟨i, hi, rfl⟩ := List.mem_map.mp hy
      have hi := List.mem_range.mp hi
      have st := step i hi (fun c => if c = true then R.ret (.rt (.int (i : Int)) ()) else R.ret (.nx ()))
      simp only [BkT.i1, rb] at st
      rw [st, decide_eq_false (hno i hi)]
      rfl)]
    rfl
theorem rep_sg {c : Nat} (h : Sg t) : Sg (repT c t) := Sg.app (Sg.app ((sg_num c).app (by unfold Sg; decide)) h) (by unfold Sg; decide)
theorem step_of_do (T : BkT b kn mn) {rec : D → D → D → R D} {m : Nat} (hm : m < b.mm) {ne : D} : m_step_of rec b.d (tD (mn m)) ne = R.ret (stepX m) := by
  have isn : isNotR (.int (m : Int)) .none = R.ret (.bool true) := Eq.trans rfl rfl
  unfold m_step_of o_step_of endR0
  simp only [rb, R.bind_assoc, (move_index_eq T (T.N.mok m hm).sg).1 m hm rfl, isn, bool_b, if_true, lit_do]
  rfl
theorem step_of_rep (T : BkT b kn mn) {rec : D → D → D → R D} {c nested : Nat} {ti : List Nat} {xi : D} (h1 : 1 ≤ c) (h2 : c ≤ big30) (hti : ti.length ≤ 9000) (hsg : Sg ti) (hrec : rec b.d (tD ti) (.int ((nested : Int) - 1)) = R.ret xi) (hx : xi ≠ .tuple []) (hxn : isR xi .none = R.ret (.bool false)) (hxe : eqR xi (.tuple []) = R.ret (.bool (nilB xi))) : m_step_of rec b.d (tD (repT c ti)) (.int (nested : Int)) = R.ret (repX c xi) := by
  have isn : isNotR .none .none = R.ret (.bool false) := Eq.trans rfl rfl
  have nl := num_len h2
  have len : (repT c ti).length = (numL c).length + 4 + ti.length + 1 := by unfold repT; simp only [List.length_append, List.length_cons, List.length_nil]
  have lm : (repT c ti).length + 2 ≤ tMax := by rw [len]; unfold tMax; omega
  have lm' : (repT c ti).length ≤ tMax := by omega
  have n32 : 32 ∉ numL c := TL.numL_free (by omega)
  have sp : ∃ r, spl [32, 120, 32, 40] 0 [] (repT c ti) = numL c :: r := by
    unfold repT
    rw [List.append_assoc, List.append_assoc, ← List.append_assoc [32, 120, 32, 40]]
    rw [show ([32, 120, 32, 40] ++ ti) ++ [41] = (32 :: [120, 32, 40] ++ (ti ++ [41])) by simp]
    rw [spl_part1 (S := [120, 32, 40]) n32, List.nil_append]
    exact ⟨_, rfl⟩
  obtain ⟨r, sp⟩ := sp
  have i0 : ∀ (x : D) (xs : List D), ixR (.list (x :: xs)) (.int 0) = R.ret x := fun x xs => ix_lst (k := 0) rfl
  have no : ∀ m, m < b.mm → mn m ≠ repT c ti := fun m hm z => by
    have : 32 ∈ mn m := by rw [z]; unfold repT; simp
    exact (T.N.mok m hm).free (by omega) this
  have nr : m_number_of (tD (numL c)) (.int 1000000000000000000000000000000) = R.ret (.int (c : Int)) := by
    have := number_of_num (m := c) (most := big30) (Nat.le_trans nl (by decide))
    rw [if_pos h2] at this
    exact this
  have isn2 : isR (PyData.int (c : Int)) .none = R.ret (.bool false) := Eq.trans rfl rfl
  have e4 : (((numL c).length : Nat) : Int) + 4 = (((numL c).length + 4 : Nat) : Int) := by omega
  have mid : ((repT c ti).drop (numL c).length).take 4 = [32, 120, 32, 40] := by
    unfold repT
    rw [List.append_assoc, List.append_assoc, List.drop_left]
    rfl
  have lst : ixR (tD (repT c ti)) (.int (-1)) = R.ret (tD [41]) := ix_txN (l := numL c ++ [32, 120, 32, 40] ++ ti) (c := 41) lm'
  have ins : ((repT c ti).drop ((numL c).length + 4)).take ((repT c ti).length - 1 - ((numL c).length + 4)) = ti := by
    rw [len, show (numL c).length + 4 + ti.length + 1 - 1 - ((numL c).length + 4) = ti.length by omega]
    unfold repT
    rw [List.append_assoc, ← (show (numL c ++ [32, 120, 32, 40]).length = (numL c).length + 4 by rw [List.length_append]; rfl), List.drop_left, List.take_left]
  unfold m_step_of o_step_of endR0
  simp only [rb, R.bind_assoc, (move_index_eq T (rep_sg hsg)).2 no, isn, bool_b, Bool.false_eq_true, if_false, lit_rep, lit_close, lit_repw, strR_tx, split_tx (S := [32, 120, 32, 40]) (by simp) (by unfold Sg; decide) lm, sp, List.map_cons, i0, nr, len_tx (Nat.le_trans nl (by decide)), add_int, e4, isn2, eq_int, part_int, slice_tnn lm', neg_int, lst]
  rw [decide_eq_false (show ¬ (c : Int) = 0 by omega), show (numL c).length + 4 - (numL c).length = 4 by omega, mid]
  simp only [Bool.false_eq_true, if_false, ne_tx (show Sg [32, 120, 32, 40] by unfold Sg; decide) (show Sg [32, 120, 32, 40] by unfold Sg; decide), ne_tx (show Sg [41] by unfold Sg; decide) (show Sg [41] by unfold Sg; decide), decide_true, Bool.not_true, rb, bool_b]
  rw [slice_tbut lm' (by rw [len]; omega), ins]
  simp only [rb, sub_int, hrec, hxn, bool_b, Bool.false_eq_true, if_false, hxe, nilB_no hx]
  rfl
theorem run_isn : RunOk b.mm mn d x t → isR x .none = R.ret (.bool false) := fun h => by
  cases d with
  | zero => obtain ⟨ps, _, _, rfl, _⟩ := h; rfl
  | succ d => obtain ⟨ps, _, _, rfl, _⟩ := h; rfl
theorem steps_of_eq (T : BkT b kn mn) : ∀ (d f nested : Nat), d < f → d ≤ 4 → d + 1 ≤ nested → ∀ {x : D} {t : List Nat}, RunOk b.mm mn d x t → m_steps_of f b.d (tD t) (.int (nested : Int)) = R.ret x := by
  have key : ∀ (P : D → List Nat → Prop) (f nested : Nat), 1 ≤ nested → (∀ xi ti, P xi ti → m_steps_of f b.d (tD ti) (.int ((nested : Int) - 1)) = R.ret xi ∧ ti.length ≤ 9000 ∧ Sg ti ∧ Bal ti ∧ isR xi .none = R.ret (.bool false) ∧ eqR xi (.tuple []) = R.ret (.bool (nilB xi))) → ∀ x t, RunOf b.mm mn P x t → t.length ≤ 10000 → m_steps_of (f + 1) b.d (tD t) (.int (nested : Int)) = R.ret x := fun P f nested hn hP x t ⟨ps, hl, hs, hx, ht⟩ htl => by
    subst hx ht
    have words : ∀ p ∈ ps, Wrd p.2 ∧ Sg p.2 ∧ p.2 ≠ [] ∧ p.2 ≠ nothingL := fun p hp => by
      rcases hs p hp with ⟨m, hm, rfl⟩ | ⟨c, xi, ti, h1, h2, hr, _, rfl⟩
      · have ok := T.N.mok m hm
        obtain ⟨c, r, e, _⟩ := ok.hd
        have e : mn m = c :: r := e
        refine ⟨wrd_name ok, ok.sg, fun z => ?_, fun z => ?_⟩
        · have z : mn m = [] := z
          rw [z] at e; cases e
        · have h7 := ok.n7
          have z : mn m = nothingL := z
          rw [z] at h7
          exact h7 rfl
      · refine ⟨wrd_rep (hP _ _ hr).2.2.2.1, rep_sg (hP _ _ hr).2.2.1, fun z => ?_, fun z => ?_⟩
        · have z : repT c ti = [] := z
          have := congrArg List.length z
          unfold repT at this
          simp at this
        · have z : repT c ti = nothingL := z
          have : 32 ∈ nothingL := by rw [← z]; unfold repT; simp
          exact absurd this (by decide)
    have sgt : Sg (runT (ps.map (·.2))) := by
      unfold runT
      split
      · exact sg_nothing
      · refine sg_join (by unfold Sg; decide) _ fun l hl => ?_
        obtain ⟨p, hp, rfl⟩ := List.mem_map.mp hl
        exact (words p hp).2.1
    unfold m_steps_of o_steps_of endR0
    simp only [rb, R.bind_assoc, eq_int, bool_b]
    rw [decide_eq_false (show ¬ (nested : Int) = 0 by omega)]
    simp only [Bool.false_eq_true, if_false, rb, lit_nothing, lit_nil, eq_tx sgt sg_nothing, bool_b]
    by_cases q : ps = []
    · subst q
      rw [decide_eq_true (show runT (([] : List (D × List Nat)).map (·.2)) = nothingL from rfl)]
      rfl
    · have qm : ps.map (·.2) ≠ [] := fun z => q (List.map_eq_nil_iff.mp z)
      have et : runT (ps.map (·.2)) = TL.joinL [59, 32] (ps.map (·.2)) := by unfold runT; rw [if_neg qm]
      have tne : runT (ps.map (·.2)) ≠ nothingL := by
        rw [et]
        match ps, q, words with
        | [p], _, words => exact (words p List.mem_cons_self).2.2.2
        | p :: p2 :: r, _, _ =>
          intro z
          have : 59 ∈ nothingL := by
            rw [← z]
            show 59 ∈ p.2 ++ ([59, 32] ++ _)
            simp
          exact absurd this (by decide)
      rw [decide_eq_false tne, et]
      rw [et] at htl
      simp only [Bool.false_eq_true, if_false]
      rw [split_steps_eq qm (fun l hl => by obtain ⟨p, hp, rfl⟩ := List.mem_map.mp hl; exact (words p hp).1) (fun l hl => by obtain ⟨p, hp, rfl⟩ := List.mem_map.mp hl; exact (words p hp).2.1) htl]
      simp only [rb, items_l]
      rw [List.map_map]
      refine (congrArg (fun r => (seqR r _).bind outD) (forR_eqG (h := tD ∘ fun p : D × List Nat => p.2) (enc := fun pre : List (D × List Nat) => pre.map (·.1)) (ks := ps) (fun p pre hp hpre => ?_) ps [] rfl)).trans ?_
      · obtain ⟨w1, w2, w3, w4⟩ := words p hp
        have so : m_step_of (m_steps_of f) b.d (tD p.2) (.int (nested : Int)) = R.ret p.1 ∧ isR p.1 .none = R.ret (.bool false) := by
          rcases hs p hp with ⟨m, hm, rfl⟩ | ⟨c, xi, ti, h1, h2, hr, hne, rfl⟩
          · exact ⟨step_of_do T hm, rfl⟩
          · obtain ⟨a1, a2, a3, a4, a5, a6⟩ := hP _ _ hr
            exact ⟨step_of_rep T h1 h2 a2 a3 a1 hne a5 a6, rfl⟩
        have hpl : pre.length ≤ 3 := by
          obtain ⟨post, hpost⟩ := hpre
          have := congrArg List.length hpost
          rw [List.length_append] at this
          omega
        rw [show (tD ∘ fun p : D × List Nat => p.2) p = tD p.2 from rfl]
        simp only [ne_tx w2 sg_nil, decide_eq_false w3, Bool.not_false, rb, bool_b, if_true, so.1, so.2, Bool.false_eq_true, if_false, R.bind_assoc]
        rw [app_ok (by rw [List.length_map]; omega), rb, List.map_append]
        rfl
      · simp only [seq_nx, tuple_l, rb]
        rfl
  intro d
  induction d with
  | zero =>
    intro f nested hf _ hn x t h
    obtain ⟨f, rfl⟩ : ∃ g, f = g + 1 := ⟨f - 1, by omega⟩
    exact key _ f nested (by omega) (fun _ _ z => z.elim) x t h (Nat.le_trans (run_len T.N.mok h) (by decide))
  | succ d ih =>
    intro f nested hf hd hn x t h
    obtain ⟨f, rfl⟩ : ∃ g, f = g + 1 := ⟨f - 1, by omega⟩
    refine key _ f nested (by omega) (fun xi ti z => ⟨?_, Nat.le_trans (run_len T.N.mok z) (Nat.le_trans (Bd4 d (by omega)) (by decide)), run_sg T.N.mok z, run_bal T.N.mok z, run_isn z, eq_run (by omega) z⟩) x t h (Nat.le_trans (run_len T.N.mok h) (Nat.le_trans (Bd4 (d + 1) hd) (by decide)))
    rw [show (nested : Int) - 1 = ((nested - 1 : Nat) : Int) by omega]
    exact ih f (nested - 1) (by omega) (by omega) (by omega) z
theorem read_run_eq (T : BkT b kn mn) {d : Nat} (hd : d ≤ 4) (h : RunOk b.mm mn d x t) : m_read_run b.d (tD t) = R.ret x := by
  unfold m_read_run o_read_run endR0
  have e : m_steps_of 6 b.d (tD t) (.int 30) = R.ret x := steps_of_eq T d 6 30 (by omega) hd (by omega) h
  simp only [rb, R.bind_assoc, e, run_isn h, bool_b, Bool.false_eq_true, if_false]
  rfl
end
/-! The law: texts read back. -/
section
open TL (numL)
variable {b : Bk} {kn mn : Nat → List Nat}
theorem pow30 : powR (.int 10) (.int 30) = R.ret (.int ((big30 : Nat) : Int)) := by
  have h : (0 : Int) ≤ 30 ∧ (30 : Int) ≤ 1000000 ∧ (10 : Int).natAbs < 2 ^ 64 := by decide
  simp only [powR, h, and_self, if_true]
  congr 2
theorem pow6 : powR (.int 10) (.int 6) = R.ret (.int 1000000) := by
  have h : (0 : Int) ≤ 6 ∧ (6 : Int) ≤ 1000000 ∧ (10 : Int).natAbs < 2 ^ 64 := by decide
  simp only [powR, h, and_self, if_true]
  congr 2
theorem sg_book (T : BkT b kn mn) {K1 K2 : Nat → List Nat} (O : Ords b K1 K2) : Sg (bookL b kn mn K1 K2) := by
  unfold bookL
  refine sg_join (by unfold Sg; decide) _ fun l hl => ?_
  rcases List.mem_cons.mp hl with rfl | hl
  · unfold kindsLine
    refine sg_join (by unfold Sg; decide) _ fun l hl => ?_
    rcases List.mem_cons.mp hl with rfl | hl
    · exact sg_kindsW
    · obtain ⟨k, hk, rfl⟩ := List.mem_map.mp hl
      exact (T.N.kok k (List.mem_range.mp hk)).sg
  · obtain ⟨i, hi, rfl⟩ := List.mem_map.mp hl
    have hi := List.mem_range.mp hi
    unfold lineM moveL
    exact Sg.app (Sg.app (Sg.app (Sg.app (T.N.mok i hi).sg (by unfold Sg; decide)) (sg_text (T.kn6.wd (T.ent i)) fun k hk => ((mem_hasW (O.p1 i hi)).mp hk).1)) (by unfold Sg; decide)) (sg_text (T.kn6.wdR (T.rg i)) fun k hk => ((mem_hasW (O.p2 i hi)).mp hk).1)
theorem pl_book (T : BkT b kn mn) : Pl 4 b.d := by
  unfold Bk.d Pl
  intro x hx
  simp only [List.mem_cons, List.not_mem_nil, or_false] at hx
  rcases hx with rfl | rfl
  · rw [T.names]
    unfold Pl
    intro y hy
    unfold kindsD at hy
    obtain ⟨k, hk, rfl⟩ := List.mem_map.mp hy
    unfold tD Pl
    exact (T.N.kok k (List.mem_range.mp hk)).sg.lay
  · unfold Pl
    intro y hy
    rw [moves_map T] at hy
    obtain ⟨i, hi, rfl⟩ := List.mem_map.mp hy
    have hi := List.mem_range.mp hi
    rw [T.move hi]
    unfold Pl
    intro z hz
    simp only [List.mem_cons, List.not_mem_nil, or_false] at hz
    rcases hz with rfl | rfl | rfl | rfl
    · unfold tD Pl
      exact (T.N.mok i hi).sg.lay
    · exact pl_vec
    · exact pl_vec
    · exact pl_vec
theorem law_ok : Ok o_law fun o => ∃ t, o = .rt (.bool true) t := by
  unfold o_law
  simp only [rb]
  refine ok_step (book_okN (most := 1000) (by decide)) fun d e => ?_
  obtain ⟨b, kn, mn, rfl, F, hn6, hm8, N⟩ := e
  have T : BkT b kn mn := ⟨F.n1, hn6, hm8, N, F⟩
  have K := T.kn6
  simp only [T.i0, rb, R.bind_assoc, print_book_eq T]
  refine ok_step (lbook_ok T false) fun d e => ?_
  obtain ⟨K1, K2, rfl, O, hm⟩ := e
  rw [hm rfl]
  simp only [ne_tx (sg_book T ords_has) (sg_book T ords_has), decide_true, Bool.not_true, rb, bool_b, Bool.false_eq_true, if_false, read_book_eq T ords_has, ne_no (pl_book T) (show 4 ≤ 64 by decide), R.bind_assoc]
  refine ok_step (lbook_ok T true) fun d e => ?_
  obtain ⟨K1', K2', rfl, O', _⟩ := e
  simp only [read_book_eq T O', rb, ne_no (pl_book T) (show 4 ≤ 64 by decide), bool_b, Bool.false_eq_true, if_false, items_t]
  -- the stock
  refine ok_step (comp_all (P := fun y => ∃ z : Int, y = .int z ∧ (0 ≤ z ∧ z ≤ ((big30 : Nat) : Int))) (Q := fun ys => ∃ e : Nat → Int, ys = vecL b.n e ∧ ∀ k, k < b.n → 0 ≤ e k ∧ e k ≤ ((big30 : Nat) : Int)) (fun d _ => ?_) (by unfold kindsD; rw [List.length_map, List.length_range]; exact le_size (by omega)) fun ys h1 h2 => ?_) fun ys e => ?_
  · simp only [pow30, pow6, rb]
    refine ok_step (draw_pos (by decide)) fun d hd => ?_
    obtain ⟨z, z0, z1, rfl⟩ := hd
    refine ok_step (draw_lit (n := 4) (k := 4) (by decide) (by decide)) fun d hd => ?_
    obtain ⟨i, hi, rfl⟩ := hd
    have e4 : ([PyData.int 0, .int 1, .int ((big30 : Nat) : Int), .int z] : List D) = ([0, 1, ((big30 : Nat) : Int), z] : List Int).map PyData.int := rfl
    rw [e4, ix_ints (ns := [0, 1, ((big30 : Nat) : Int), z]) (i := i) hi]
    refine ok_ret ⟨_, rfl, ?_⟩
    have hb : (1000000 : Int) ≤ ((big30 : Nat) : Int) := by decide
    have := List.getElem_mem (l := ([0, 1, ((big30 : Nat) : Int), z] : List Int)) (n := i) hi
    simp only [List.mem_cons, List.not_mem_nil, or_false] at this
    generalize ([0, 1, ((big30 : Nat) : Int), z] : List Int)[i] = y at this
    generalize ((big30 : Nat) : Int) = B at *
    omega
  · obtain ⟨ns, rfl, hns⟩ := all_map (g := PyData.int) h2
    have hlen : ns.length = b.n := by
      rw [List.length_map] at h1
      rw [h1]
      unfold kindsD
      rw [List.length_map, List.length_range]
    refine ⟨fun k => ns.getD k 0, by rw [← hlen]; exact vecL_of ns, fun k hk => ?_⟩
    have hk' : k < ns.length := by omega
    have := hns (ns[k]) (List.getElem_mem hk')
    simp only [List.getD, List.getElem?_eq_getElem hk', Option.getD_some]
    exact this
  obtain ⟨e, rfl, he⟩ := e
  have tv : ∀ f : Nat → Int, tupleR (.list (vecL b.n f)) = R.ret (vec b.n f) := fun f => tuple_l
  have E : Ent b.n e big30 false := ⟨fun k hk => by have := he k hk; omega, fun k hk => (he k hk).2, Nat.le_refl _, fun k hk z => by have := he k hk; omega⟩
  have en : ∀ {f : Nat → Int} {en : Bool}, Ent b.n f big30 en → Sg (textI (fun k => wordF (f k)) kn (hasW b.n fun k => wordF (f k))) := fun G => sg_text (K.wd G) hasW_lt
  have rs : ∀ {ks : List Nat} {f : Nat → Int}, Ent b.n f big30 false → ks.Perm (hasW b.n fun k => wordF (f k)) → m_read_stock b.d (tD (textI (fun k => wordF (f k)) kn ks)) = R.ret (vec b.n f) := fun {ks f} G hp => by
    have h : m_entries_of (.tuple (kindsD b.n kn)) (tD (textI (fun k => wordF (f k)) kn ks)) (.int 1000000000000000000000000000000) (.bool false) = R.ret (vec b.n f) := entries_of_eq K G hp
    have isn : isR (vec b.n f) .none = R.ret (.bool false) := Eq.trans rfl rfl
    unfold m_read_stock o_read_stock endR0
    simp only [T.i0, rb, R.bind_assoc, h, isn, bool_b, Bool.false_eq_true, if_false]
    rfl
  have rx : ∀ {ks : List Nat} {f : Nat → Int}, Ent b.n f big30 true → ks.Perm (hasW b.n fun k => wordF (f k)) → m_read_extended b.d (tD (textI (fun k => wordF (f k)) kn ks)) = R.ret (vec b.n f) := fun {ks f} G hp => by
    have h : m_entries_of (.tuple (kindsD b.n kn)) (tD (textI (fun k => wordF (f k)) kn ks)) (.int 1000000000000000000000000000000) (.bool true) = R.ret (vec b.n f) := entries_of_eq K G hp
    have isn : isR (vec b.n f) .none = R.ret (.bool false) := Eq.trans rfl rfl
    unfold m_read_extended o_read_extended endR0
    simp only [T.i0, rb, R.bind_assoc, h, isn, bool_b, Bool.false_eq_true, if_false]
    rfl
  simp only [tv, rb, print_stock_eq T.names K E]
  refine ok_step (lstock_ok K E false) fun d hd => ?_
  obtain ⟨ks, rfl, hp, hk⟩ := hd
  rw [hk rfl]
  simp only [ne_tx (en E) (en E), decide_true, Bool.not_true, rb, bool_b, Bool.false_eq_true, if_false, rs E (List.Perm.refl _), ne_no (pl_vec (k := 0)) (show 1 ≤ 64 by decide), items_vec]
  -- the extended stock
  refine ok_step (comp_vec_ok (P := fun k z => z = -1 ∨ z = e k) (le_size (by omega)) fun k hk => ?_) fun ys hy => ?_
  · simp only [neg_int, rb]
    refine ok_step (draw_lit (n := 2) (k := 2) (by decide) (by decide)) fun d hd => ?_
    obtain ⟨i, hi, rfl⟩ := hd
    have e2 : ([PyData.int (-1), .int (e k)] : List D) = ([-1, e k] : List Int).map PyData.int := rfl
    rw [e2, ix_ints (ns := [-1, e k]) (i := i) hi]
    refine ok_ret ⟨_, rfl, ?_⟩
    have := List.getElem_mem (l := ([-1, e k] : List Int)) (n := i) hi
    simp only [List.mem_cons, List.not_mem_nil, or_false] at this
    exact this
  obtain ⟨f, rfl, hf, _⟩ := hy
  have G : Ent b.n f big30 true := ⟨fun k hk => by have := he k hk; rcases hf k hk with h | h <;> omega, fun k hk => by have := he k hk; rcases hf k hk with h | h <;> omega, Nat.le_refl _, fun _ _ _ => rfl⟩
  simp only [tv, rb]
  refine ok_step (lstock_ok K G true) fun d hd => ?_
  obtain ⟨k2, rfl, hp2, _⟩ := hd
  simp only [print_stock_eq T.names K G, rb]
  refine ok_step (lstock_ok K G false) fun d hd => ?_
  obtain ⟨k3, rfl, hp3, hk3⟩ := hd
  rw [hk3 rfl]
  simp only [ne_tx (en G) (en G), decide_true, Bool.not_true, rb, bool_b, Bool.false_eq_true, if_false, rx G hp2, ne_no (pl_vec (k := 0)) (show 1 ≤ 64 by decide), R.bind_assoc]
  refine ok_step (lstock_ok K E true) fun d hd => ?_
  obtain ⟨k4, rfl, hp4, _⟩ := hd
  simp only [rs E hp4, ne_no (pl_vec (k := 0)) (show 1 ≤ 64 by decide), rb, bool_b, Bool.false_eq_true, if_false, BkT.i1, len_t, Bk.moves_length, pow30]
  -- the run
  refine ok_step (lrun_ok (mm := b.mm) (mn := mn) 4 6 (by decide) (by decide)) fun x hx => ?_
  obtain ⟨t, ht⟩ := hx
  have rp := runs_print T 4 6 (by decide) (by decide) ht
  have sg := run_sg N.mok ht
  simp only [rp.1, rp.2, rb, eq_tx sg sg, decide_true, bool_b, if_true, read_run_eq T (by decide) ht, eq_yes (pl_run ht) (show 2 * 4 + 2 ≤ 64 by decide)]
  exact ok_ret ⟨(), rfl⟩
theorem fin_m : ∀ ns : List Int, ns.length ≤ 63 → (m_law_numbers (.list (ns.map PyData.int)) (.int drawCount)).wp rowsOk (fun _ _ => False) := fun ns hl => (numbers_ok hl (N := 260) (by decide) (by decide)).w
theorem fin_o : o_law.wp (fun x => ∃ t, x = .rt (.bool true) t) fun _ _ => False := law_ok.w
end
end k01
/-! The walk. -/
namespace k01
open Pu PySem PySem.Spec PyProof.Rows L2 R
def top (i : Nat) : Stmt := PySem.Challenge.pw_mintlaw_k01_texts_read_back.main.body.getD i (.Pass ⟨0, 0, 0, 0⟩)
structure G (P : Program) (w : World) (K : PySem.W.Frag) (mg : Str → Option Value) (base : Heap) : Prop where
  bt : Bt mg
  at_is_name : At K mg "is_name" (top 8) ["value"]
  at_move_index : At K mg "move_index" (top 9) ["book", "name"]
  at_print_items : At K mg "print_items" (top 15) ["kinds", "items"]
  at_written : At K mg "written" (top 16) ["number"]
  at_print_stock : At K mg "print_stock" (top 17) ["book", "stock"]
  at_print_range : At K mg "print_range" (top 18) ["least", "most"]
  at_print_move : At K mg "print_move" (top 19) ["book", "move"]
  at_print_book : At K mg "print_book" (top 20) ["book"]
  at_print_run : At K mg "print_run" (top 21) ["book", "run"]
  at_number_of : At K mg "number_of" (top 22) ["word", "most"]
  at_read_items : At K mg "read_items" (top 23) ["kinds", "text"]
  at_entries_of : At K mg "entries_of" (top 24) ["kinds", "text", "most", "endless"]
  at_range_of : At K mg "range_of" (top 25) ["word"]
  at_ranges_of : At K mg "ranges_of" (top 26) ["kinds", "text"]
  at_read_move : At K mg "read_move" (top 27) ["kinds", "line"]
  at_read_kinds : At K mg "read_kinds" (top 28) ["line"]
  at_read_book : At K mg "read_book" (top 29) ["text"]
  at_read_stock : At K mg "read_stock" (top 30) ["book", "text"]
  at_read_extended : At K mg "read_extended" (top 31) ["book", "text"]
  at_split_steps : At K mg "split_steps" (top 32) ["text"]
  at_step_of : At K mg "step_of" (top 33) ["book", "text", "nested"]
  at_steps_of : At K mg "steps_of" (top 34) ["book", "text", "nested"]
  at_read_run : At K mg "read_run" (top 35) ["book", "text"]
  at_law_mix : At K mg "_law_mix" (top 37) ["_law_first", "_law_second"]
  at_law_numbers : At K mg "_law_numbers" (top 38) ["_law_script", "_law_count"]
  at_law_draws : At K mg "_law_draws" (top 39) ["_law_script", "_law_count"]
  at_law_take : At K mg "_law_take" (top 40) ["_law_draws_here", "_law_bound"]
  at_law_named : At K mg "_law_named" (top 41) ["_law_draws_here"]
  at_law_stock : At K mg "_law_stock" (top 42) ["_law_draws_here", "_law_n", "_law_most"]
  at_law_book : At K mg "_law_book" (top 43) ["_law_draws_here", "_law_most"]
  at_law_run : At K mg "_law_run" (top 44) ["_law_draws_here", "_law_moves", "_law_depth", "_law_times"]
  at_law_items : At K mg "_law_items" (top 45) ["_law_draws_here", "_law_kinds", "_law_words", "_law_mixed"]
  at_law_word : At K mg "_law_word" (top 46) ["_law_number"]
  at_law_range : At K mg "_law_range" (top 47) ["_law_low", "_law_high"]
  at_law_stock_text : At K mg "_law_stock_text" (top 48) ["_law_draws_here", "_law_kinds", "_law_stock_here", "_law_mixed"]
  at_law_book_text : At K mg "_law_book_text" (top 49) ["_law_draws_here", "_law_book_here", "_law_mixed"]
  at_law_run_text : At K mg "_law_run_text" (top 50) ["_law_book_here", "_law_run_here"]
  at_law : At K mg "law" (top 51) ["_law_script"]
  con_SMALL : GCon K mg "SMALL" (.str "abcdefghijklmnopqrstuvwxyz")
  con_DIGITS : GCon K mg "DIGITS" (.str "0123456789")
  con_RESERVED : GTup K mg "RESERVED" [(.str "kinds"), (.str "nothing"), (.str "endless"), (.str "x")]
  con_MAX_KINDS : GCon K mg "MAX_KINDS" (.int 6)
  con_MAX_MOVES : GCon K mg "MAX_MOVES" (.int 8)
  con_MAX_ENTRY : GCon K mg "MAX_ENTRY" (.int 1000)
  con_MAX_NESTED : GCon K mg "MAX_NESTED" (.int 30)
  con_MOST : GCon K mg "MOST" (.int 1000000000000000000000000000000)
  bt_set : mg "set" = none
theorem s_law_mix : FnScope ["_law_first", "_law_second", "_law_value"] ["_law_first", "_law_second"] (defScope (top 37)) := ⟨rfl, rfl, rfl, by decide +kernel, rfl, by decide +kernel, by decide +kernel⟩
theorem r_law_mix {X : Cx} {k : Nat} (c : Cd CX0 k wd0 ["_law_first", "_law_second", "_law_value"] (defScope (top 37)) X) (W : NoW wd0) (g : G X.prog X.w X.K X.mg X.base) (hk : 0 ≤ k) (v_law_first v_law_second : D) :
    Run X wd0 (fun _ : Unit => [.no, .no, .no]) (fun e : Empty => e.elim) (fun _ : Unit => []) [.d v_law_first, .d v_law_second, .no] (defBody (top 37)) (o_law_mix v_law_first v_law_second) :=
  (run_set c (i := 2) (by decide +kernel) (by rfl) (ev_mod (Ev.look (ev_toint c.toCw g.bt (by decide +kernel) (Ev.look (ev_add (Ev.look (ev_add (Ev.look (ev_mul (Ev.look (ev_var c.toCw (i := 0) (by decide +kernel) (by rfl) (by rfl))) (Ev.look ev_int))) (Ev.look (ev_mul (Ev.look (ev_var c.toCw (i := 1) (by decide +kernel) (by rfl) (by rfl))) (Ev.look ev_int))))) (Ev.look ev_int))))) (Ev.look ev_int)) (fun v_law_value => (run_ret (t := ()) (ev_mod (Ev.look (ev_toint c.toCw g.bt (by decide +kernel) (Ev.look (ev_add (Ev.look (ev_add (Ev.look (ev_mul (Ev.look (ev_var c.toCw (i := 2) (by decide +kernel) (by rfl) (by rfl))) (Ev.look ev_int))) (Ev.look (ev_mul (Ev.look (ev_var c.toCw (i := 1) (by decide +kernel) (by rfl) (by rfl))) (Ev.look ev_int))))) (Ev.look ev_int))))) (Ev.look ev_int)) ht0)))
theorem d_law_mix {P : Program} {w : World} {K : PySem.W.Frag} {mg : Str → Option Value} {base : Heap} (g : G P w K mg base) : Df P w K mg base CX0 1 "_law_mix" (spP K 2 (l2 m_law_mix)) :=
  df_of g.at_law_mix s_law_mix (m := l2 m_law_mix) (o := l2 o_law_mix) (fun ds hl => match ds, hl with | [v_law_first, v_law_second], _ => (show m_law_mix v_law_first v_law_second = endR0 (o_law_mix v_law_first v_law_second) from rfl))
    fun X c e1 e2 e3 e4 e5 e6 => by subst e1 e2 e3 e4 e5; exact fun ds hl => match ds, hl with | [v_law_first, v_law_second], _ => r_law_mix c noW0 g (by decide) v_law_first v_law_second
theorem s_law_numbers : FnScope ["_law_script", "_law_count", "_law_found", "_law_total", "_law_cell", "_law_number", "_law_k"] ["_law_script", "_law_count"] (defScope (top 38)) := ⟨rfl, rfl, rfl, by decide +kernel, rfl, by decide +kernel, by decide +kernel⟩
theorem r_law_numbers {X : Cx} {k : Nat} (c : Cd CX0 k wd0 ["_law_script", "_law_count", "_law_found", "_law_total", "_law_cell", "_law_number", "_law_k"] (defScope (top 38)) X) (W : NoW wd0) (g : G X.prog X.w X.K X.mg X.base) (hk : 1 ≤ k) (v_law_script : List D) (v_law_count : D) :
    Run X wd0 (fun _ : Unit => [.no, .no, .no, .no, .no, .no, .no]) (fun e : Empty => e.elim) (fun _ : Unit => []) [.s v_law_script, .d v_law_count, .no, .no, .no, .no, .no] (defBody (top 38)) (o_law_numbers v_law_script v_law_count) :=
  (run_setO c (i := 2) (by decide +kernel) (by rfl) (by rfl) evl_nil (fun v_law_found => (run_set c (i := 3) (by decide +kernel) (by rfl) (ev_add (Ev.look (ev_lenS c.toCw g.bt (by decide +kernel) (i := 0) (by decide +kernel) (by rfl) (by rfl))) (Ev.look ev_int)) (fun v_law_total => (run_for (S1 := (List D) × D) (eS1 := fun (s1 : (List D) × D) => [.s v_law_script, .d v_law_count, .l s1.1, .d s1.2, .no, .no, .no]) (s0 := (v_law_found, v_law_total)) c (i := 4) (by decide +kernel) (by rfl) (evi_seq (ev_sliceS c.toCw (i := 0) (by decide +kernel) (by rfl) (by rfl) evp_none (evp_some (Ev.look ev_int)))) (le_eq (le_eq (le_eq (le_eq (le_no (le_no (le_no le_nil))))))) (fun s1 v_law_cell => (run_set c (i := 5) (by decide +kernel) (by rfl) (ev_abs c.toCw g.bt (by decide +kernel) (Ev.look (ev_var c.toCw (i := 4) (by decide +kernel) (by rfl) (by rfl)))) (fun v_law_number => (run_set c (i := 3) (by decide +kernel) (by rfl) (ev_call2 c.toCw W (d_law_mix g) (Nat.le_trans (by decide) hk) (by decide +kernel) (ev_var c.toCw (i := 3) (by decide +kernel) (by rfl) (by rfl)) (ev_mod (Ev.look (ev_toint c.toCw g.bt (by decide +kernel) (Ev.look (ev_var c.toCw (i := 5) (by decide +kernel) (by rfl) (by rfl))))) (Ev.look ev_int))) (fun v_law_total => (run_if1 (evt_ge (Ev.look (ev_var c.toCw (i := 5) (by decide +kernel) (by rfl) (by rfl))) (Ev.look (ev_pow (Ev.look ev_int) (Ev.look ev_int)))) (run_for (S1 := (List D) × D) (eS1 := fun (s2 : (List D) × D) => [.s v_law_script, .d v_law_count, .l s2.1, .d v_law_total, .d v_law_cell, .d s2.2, .no]) (s0 := (s1.1, v_law_number)) c (i := 6) (by decide +kernel) (by rfl) (evi_r1 c.toCw g.bt (by decide +kernel) (Ev.look ev_int)) (le_eq (le_eq (le_eq (le_eq (le_eq (le_eq (le_no le_nil))))))) (fun s2 v_law_k => (run_if1 (evt_gt (Ev.look (ev_var c.toCw (i := 5) (by decide +kernel) (by rfl) (by rfl))) (Ev.look ev_int)) (run_app c (i := 2) (by decide +kernel) (by rfl) (by rfl) (ev_mod (Ev.look (ev_toint c.toCw g.bt (by decide +kernel) (Ev.look (ev_var c.toCw (i := 5) (by decide +kernel) (by rfl) (by rfl))))) (Ev.look ev_int)) (fun v_law_found => (run_set c (i := 5) (by decide +kernel) (by rfl) (ev_fdiv (Ev.look (ev_var c.toCw (i := 5) (by decide +kernel) (by rfl) (by rfl))) (Ev.look ev_int)) (fun v_law_number => (run_nil (le_eq (le_eq (le_eq (le_eq (le_eq (le_eq (le_no le_nil)))))))))))) (run_nil (le_eq (le_eq (le_eq (le_eq (le_eq (le_eq (le_no le_nil)))))))))) (fun s2 => (run_nil (le_eq (le_eq (le_eq (le_eq (le_no (le_no (le_no le_nil)))))))))) (run_for (S1 := List D) (eS1 := fun (s3 : List D) => [.s v_law_script, .d v_law_count, .l s3, .d v_law_total, .d v_law_cell, .d v_law_number, .no]) (s0 := s1.1) c (i := 6) (by decide +kernel) (by rfl) (evi_r1 c.toCw g.bt (by decide +kernel) (Ev.look ev_int)) (le_eq (le_eq (le_eq (le_eq (le_eq (le_eq (le_no le_nil))))))) (fun s3 v_law_k => (run_app c (i := 2) (by decide +kernel) (by rfl) (by rfl) (ev_mod (Ev.look (ev_toint c.toCw g.bt (by decide +kernel) (Ev.look (ev_call2 c.toCw W (d_law_mix g) (Nat.le_trans (by decide) hk) (by decide +kernel) (ev_var c.toCw (i := 5) (by decide +kernel) (by rfl) (by rfl)) (ev_add (Ev.look (ev_var c.toCw (i := 6) (by decide +kernel) (by rfl) (by rfl))) (Ev.look ev_int)))))) (Ev.look ev_int)) (fun v_law_found => (run_nil (le_eq (le_eq (le_eq (le_eq (le_eq (le_eq (le_no le_nil))))))))))) (fun s3 => (run_nil (le_eq (le_eq (le_eq (le_eq (le_no (le_no (le_no le_nil)))))))))))))))) (fun s1 => (run_for (S1 := (List D) × D) (eS1 := fun (s4 : (List D) × D) => [.s v_law_script, .d v_law_count, .l s4.1, .d s4.2, .no, .no, .no]) (s0 := (s1.1, s1.2)) c (i := 6) (by decide +kernel) (by rfl) (evi_r1 c.toCw g.bt (by decide +kernel) (Ev.look (ev_var c.toCw (i := 1) (by decide +kernel) (by rfl) (by rfl)))) (le_eq (le_eq (le_eq (le_eq (le_no (le_no (le_no le_nil))))))) (fun s4 v_law_k => (run_if1 (evt_lt (Ev.look (ev_len c.toCw g.bt (by decide +kernel) (evb_own c.toCw (i := 2) (by decide +kernel) (by rfl) (by rfl)))) (Ev.look (ev_var c.toCw (i := 1) (by decide +kernel) (by rfl) (by rfl)))) (run_set c (i := 3) (by decide +kernel) (by rfl) (ev_call2 c.toCw W (d_law_mix g) (Nat.le_trans (by decide) hk) (by decide +kernel) (ev_var c.toCw (i := 3) (by decide +kernel) (by rfl) (by rfl)) (ev_add (Ev.look (ev_var c.toCw (i := 6) (by decide +kernel) (by rfl) (by rfl))) (Ev.look ev_int))) (fun v_law_total => (run_app c (i := 2) (by decide +kernel) (by rfl) (by rfl) (ev_mod (Ev.look (ev_toint c.toCw g.bt (by decide +kernel) (Ev.look (ev_var c.toCw (i := 3) (by decide +kernel) (by rfl) (by rfl))))) (Ev.look ev_int)) (fun v_law_found => (run_nil (le_eq (le_eq (le_eq (le_eq (le_no (le_no (le_no le_nil)))))))))))) (run_nil (le_eq (le_eq (le_eq (le_eq (le_no (le_no (le_no le_nil)))))))))) (fun s4 => (run_ret (t := ()) (ev_slice (evb_own c.toCw (i := 2) (by decide +kernel) (by rfl) (by rfl)) evp_none (evp_some (Ev.look (ev_var c.toCw (i := 1) (by decide +kernel) (by rfl) (by rfl))))) ht0)))))))))
theorem d_law_numbers {P : Program} {w : World} {K : PySem.W.Frag} {mg : Str → Option Value} {base : Heap} (g : G P w K mg base) : Df P w K mg base CX0 2 "_law_numbers" (spS K m_law_numbers) :=
  df_ofS g.at_law_numbers s_law_numbers (o := o_law_numbers) (fun _ _ => rfl) fun X c e1 e2 e3 e4 e5 ds d => by subst e1 e2 e3 e4 e5; exact r_law_numbers c noW0 g (by decide) ds d
theorem s_law_draws : FnScope ["_law_script", "_law_count"] ["_law_script", "_law_count"] (defScope (top 39)) := ⟨rfl, rfl, rfl, by decide +kernel, rfl, by decide +kernel, by decide +kernel⟩
theorem d_law_draws {P : Program} {w : World} {K : PySem.W.Frag} {mg : Str → Option Value} {base : Heap} (g : G P w K mg base) : Df P w K mg base CX0 3 "_law_draws" (spDr K m_law_numbers) := df_draws g.at_law_draws s_law_draws (d_law_numbers g) (by decide) (by decide +kernel) rfl
theorem s_law_take : FnScope ["_law_draws_here", "_law_bound", "_law_row", "_law_at", "_law_value"] ["_law_draws_here", "_law_bound"] (defScope (top 40)) := ⟨rfl, rfl, rfl, by decide +kernel, rfl, by decide +kernel, by decide +kernel⟩
theorem d_law_take {P : Program} {w : World} {K : PySem.W.Frag} {mg : Str → Option Value} {base : Heap} (g : G P w K mg base) : Df P w K mg base CX0 1 "_law_take" (spD K 1 (l1 drawR)) := df_take g.at_law_take s_law_take g.bt (by decide +kernel) rfl
theorem s_law_named : FnScope ["_law_draws_here", "_law_small", "_law_names", "_law_k", "_law_size", "_law_rest", "_law_n"] ["_law_draws_here"] (defScope (top 41)) := ⟨rfl, rfl, rfl, by decide +kernel, rfl, by decide +kernel, by decide +kernel⟩
theorem r_law_named {X : Cx} {k : Nat} {dra : Addr × Addr} (c : Cd CX0 k (wdD dra) ["_law_draws_here", "_law_small", "_law_names", "_law_k", "_law_size", "_law_rest", "_law_n"] (defScope (top 41)) X) (W : NoW (wdD dra)) (g : G X.prog X.w X.K X.mg X.base) (hk : 1 ≤ k) :
    Run X (wdD dra) (fun _ : Unit => [.no, .no, .no, .no, .no, .no, .no]) (fun e : Empty => e.elim) (fun _ : Unit => []) [.w, .no, .no, .no, .no, .no, .no] (defBody (top 41)) (o_law_named ) :=
  (run_set c (i := 1) (by decide +kernel) (by rfl) ev_str (fun v_law_small => (run_setO c (i := 2) (by decide +kernel) (by rfl) (by rfl) evl_nil (fun v_law_names => (run_for (S1 := List D) (eS1 := fun (s1 : List D) => [.w, .d v_law_small, .l s1, .no, .no, .no, .no]) (s0 := v_law_names) c (i := 3) (by decide +kernel) (by rfl) (evi_r1 c.toCw g.bt (by decide +kernel) (Ev.look ev_int)) (le_eq (le_eq (le_eq (le_no (le_no (le_no (le_no le_nil))))))) (fun s1 v_law_k => (run_set c (i := 4) (by decide +kernel) (by rfl) (ev_ix (Ev.look (EvL.ev (evl_lst5 ev_int ev_int ev_int ev_int ev_int))) (Ev.look (ev_callD1 c.toCw W (d_law_take g) (Nat.le_trans (by decide) hk) (by decide +kernel) (i := 0) (by decide +kernel) (by rfl) (by rfl) ev_int))) (fun v_law_size => (run_set c (i := 5) (by decide +kernel) (by rfl) (ev_join (Ev.look ev_str) (Ev.look (EvL.ev (evl_comp c.toCw (i := 6) (by decide +kernel) (by rfl) (by decide +kernel) (by rfl) (by rfl) (EvI.j (evi_r1 c.toCw g.bt (by decide +kernel) (Ev.look (ev_var c.toCw (i := 4) (by decide +kernel) (by rfl) (by rfl))))) (fun v_law_n s0 H0 C cl fp => have c2 := Cw.blk c.toCw cx0F s0 H0 _ C cl fp; have W3 := NoW.calm W; (ev_ix (Ev.look (ev_add (Ev.look (ev_var c2 (i := 1) (by decide +kernel) (by rfl) (by rfl))) (Ev.look ev_str))) (Ev.look (ev_callD1 c2 W3 (d_law_take g) (Nat.le_trans (by decide) hk) (by decide +kernel) (i := 0) (by decide +kernel) (by rfl) (by rfl) ev_int)))))))) (fun v_law_rest => (run_app c (i := 2) (by decide +kernel) (by rfl) (by rfl) (ev_add (Ev.look (ev_add (Ev.look (ev_ix (Ev.look (ev_var c.toCw (i := 1) (by decide +kernel) (by rfl) (by rfl))) (Ev.look (ev_callD1 c.toCw W (d_law_take g) (Nat.le_trans (by decide) hk) (by decide +kernel) (i := 0) (by decide +kernel) (by rfl) (by rfl) ev_int)))) (Ev.look (ev_var c.toCw (i := 5) (by decide +kernel) (by rfl) (by rfl))))) (Ev.look (ev_ix (Ev.look ev_str) (Ev.look (ev_var c.toCw (i := 3) (by decide +kernel) (by rfl) (by rfl)))))) (fun v_law_names => (run_nil (le_eq (le_eq (le_eq (le_no (le_no (le_no (le_no le_nil))))))))))))))) (fun s1 => (run_retO c (i := 2) (by decide +kernel) (by rfl) (by rfl) ht0')))))))
theorem d_law_named {P : Program} {w : World} {K : PySem.W.Frag} {mg : Str → Option Value} {base : Heap} (g : G P w K mg base) : Df P w K mg base CX0 2 "_law_named" (spD K 0 (l0 m_law_named)) :=
  df_ofD g.at_law_named s_law_named (n := 0) rfl (m := l0 m_law_named) (o := l0 o_law_named) (fun ds hl => match ds, hl with | [], _ => (show m_law_named  = endR0 (o_law_named ) from rfl))
    fun X a c e1 e2 e3 e4 e5 => by subst e1 e2 e3 e4 e5; exact fun ds hl => match ds, hl with | [], _ => r_law_named c (noWD a) g (by decide) 
theorem s_law_stock : FnScope ["_law_draws_here", "_law_n", "_law_most", "_law_entries", "_law_k", "_law_entry"] ["_law_draws_here", "_law_n", "_law_most"] (defScope (top 42)) := ⟨rfl, rfl, rfl, by decide +kernel, rfl, by decide +kernel, by decide +kernel⟩
theorem r_law_stock {X : Cx} {k : Nat} {dra : Addr × Addr} (c : Cd CX0 k (wdD dra) ["_law_draws_here", "_law_n", "_law_most", "_law_entries", "_law_k", "_law_entry"] (defScope (top 42)) X) (W : NoW (wdD dra)) (g : G X.prog X.w X.K X.mg X.base) (hk : 1 ≤ k) (v_law_n v_law_most : D) :
    Run X (wdD dra) (fun _ : Unit => [.no, .no, .no, .no, .no, .no]) (fun e : Empty => e.elim) (fun _ : Unit => []) [.w, .d v_law_n, .d v_law_most, .no, .no, .no] (defBody (top 42)) (o_law_stock v_law_n v_law_most) :=
  (run_setO c (i := 3) (by decide +kernel) (by rfl) (by rfl) evl_nil (fun v_law_entries => (run_for (S1 := List D) (eS1 := fun (s1 : List D) => [.w, .d v_law_n, .d v_law_most, .l s1, .no, .no]) (s0 := v_law_entries) c (i := 4) (by decide +kernel) (by rfl) (evi_r1 c.toCw g.bt (by decide +kernel) (Ev.look (ev_var c.toCw (i := 1) (by decide +kernel) (by rfl) (by rfl)))) (le_eq (le_eq (le_eq (le_eq (le_no (le_no le_nil)))))) (fun s1 v_law_k => (run_app c (i := 3) (by decide +kernel) (by rfl) (by rfl) (ev_ix (Ev.look (EvL.ev (evl_lst6 ev_int ev_int ev_int ev_int (ev_callD1 c.toCw W (d_law_take g) (Nat.le_trans (by decide) hk) (by decide +kernel) (i := 0) (by decide +kernel) (by rfl) (by rfl) (ev_add (Ev.look (ev_var c.toCw (i := 2) (by decide +kernel) (by rfl) (by rfl))) (Ev.look ev_int))) (ev_var c.toCw (i := 2) (by decide +kernel) (by rfl) (by rfl))))) (Ev.look (ev_callD1 c.toCw W (d_law_take g) (Nat.le_trans (by decide) hk) (by decide +kernel) (i := 0) (by decide +kernel) (by rfl) (by rfl) ev_int))) (fun v_law_entries => (run_nil (le_eq (le_eq (le_eq (le_eq (le_no (le_no le_nil)))))))))) (fun s1 => (run_ret (t := ()) (ev_tuple c.toCw g.bt (by decide +kernel) (Ev.look (EvL.ev (evl_comp c.toCw (i := 5) (by decide +kernel) (by rfl) (by decide +kernel) (by rfl) (by rfl) (evj_seq (evb_own c.toCw (i := 3) (by decide +kernel) (by rfl) (by rfl))) (fun v_law_entry s0 H0 C cl fp => have c2 := Cw.blk c.toCw cx0F s0 H0 _ C cl fp; have W3 := NoW.calm W; (ev_min c2 g.bt (by decide +kernel) (Ev.look (ev_var c2 (i := 2) (by decide +kernel) (by rfl) (by rfl))) (Ev.look (ev_var c2 (i := 5) (by decide +kernel) (by rfl) (by rfl))))))))) ht0)))))
theorem d_law_stock {P : Program} {w : World} {K : PySem.W.Frag} {mg : Str → Option Value} {base : Heap} (g : G P w K mg base) : Df P w K mg base CX0 2 "_law_stock" (spD K 2 (l2 m_law_stock)) :=
  df_ofD g.at_law_stock s_law_stock (n := 2) rfl (m := l2 m_law_stock) (o := l2 o_law_stock) (fun ds hl => match ds, hl with | [v_law_n, v_law_most], _ => (show m_law_stock v_law_n v_law_most = endR0 (o_law_stock v_law_n v_law_most) from rfl))
    fun X a c e1 e2 e3 e4 e5 => by subst e1 e2 e3 e4 e5; exact fun ds hl => match ds, hl with | [v_law_n, v_law_most], _ => r_law_stock c (noWD a) g (by decide) v_law_n v_law_most
theorem s_law_book : FnScope ["_law_draws_here", "_law_most", "_law_names", "_law_n", "_law_moves", "_law_k", "_law_take_here", "_law_high", "_law_low", "_law_entry"] ["_law_draws_here", "_law_most"] (defScope (top 43)) := ⟨rfl, rfl, rfl, by decide +kernel, rfl, by decide +kernel, by decide +kernel⟩
theorem r_law_book {X : Cx} {k : Nat} {dra : Addr × Addr} (c : Cd CX0 k (wdD dra) ["_law_draws_here", "_law_most", "_law_names", "_law_n", "_law_moves", "_law_k", "_law_take_here", "_law_high", "_law_low", "_law_entry"] (defScope (top 43)) X) (W : NoW (wdD dra)) (g : G X.prog X.w X.K X.mg X.base) (hk : 2 ≤ k) (v_law_most : D) :
    Run X (wdD dra) (fun _ : Unit => [.no, .no, .no, .no, .no, .no, .no, .no, .no, .no]) (fun e : Empty => e.elim) (fun _ : Unit => []) [.w, .d v_law_most, .no, .no, .no, .no, .no, .no, .no, .no] (defBody (top 43)) (o_law_book v_law_most) :=
  (run_set c (i := 2) (by decide +kernel) (by rfl) (ev_callD0 c.toCw W (d_law_named g) (Nat.le_trans (by decide) hk) (by decide +kernel) (i := 0) (by decide +kernel) (by rfl) (by rfl) ) (fun v_law_names => (run_set c (i := 3) (by decide +kernel) (by rfl) (ev_add (Ev.look ev_int) (Ev.look (ev_callD1 c.toCw W (d_law_take g) (Nat.le_trans (by decide) hk) (by decide +kernel) (i := 0) (by decide +kernel) (by rfl) (by rfl) ev_int))) (fun v_law_n => (run_setO c (i := 4) (by decide +kernel) (by rfl) (by rfl) evl_nil (fun v_law_moves => (run_for (S1 := List D) (eS1 := fun (s1 : List D) => [.w, .d v_law_most, .d v_law_names, .d v_law_n, .l s1, .no, .no, .no, .no, .no]) (s0 := v_law_moves) c (i := 5) (by decide +kernel) (by rfl) (evi_r1 c.toCw g.bt (by decide +kernel) (Ev.look (ev_callD1 c.toCw W (d_law_take g) (Nat.le_trans (by decide) hk) (by decide +kernel) (i := 0) (by decide +kernel) (by rfl) (by rfl) ev_int))) (le_eq (le_eq (le_eq (le_eq (le_eq (le_no (le_no (le_no (le_no (le_no le_nil)))))))))) (fun s1 v_law_k => (run_set c (i := 6) (by decide +kernel) (by rfl) (ev_callD2 c.toCw W (d_law_stock g) (Nat.le_trans (by decide) hk) (by decide +kernel) (i := 0) (by decide +kernel) (by rfl) (by rfl) (ev_var c.toCw (i := 3) (by decide +kernel) (by rfl) (by rfl)) (ev_var c.toCw (i := 1) (by decide +kernel) (by rfl) (by rfl))) (fun v_law_take_here => (run_set c (i := 7) (by decide +kernel) (by rfl) (ev_callD2 c.toCw W (d_law_stock g) (Nat.le_trans (by decide) hk) (by decide +kernel) (i := 0) (by decide +kernel) (by rfl) (by rfl) (ev_var c.toCw (i := 3) (by decide +kernel) (by rfl) (by rfl)) (ev_var c.toCw (i := 1) (by decide +kernel) (by rfl) (by rfl))) (fun v_law_high => (run_set c (i := 8) (by decide +kernel) (by rfl) (ev_var c.toCw (i := 7) (by decide +kernel) (by rfl) (by rfl)) (fun v_law_low => (run_if (eS1 := fun (s2 : D) => [.w, .d v_law_most, .d v_law_names, .d v_law_n, .l s1, .d v_law_k, .d v_law_take_here, .d v_law_high, .d s2, .no]) (evt_eq c.toCw (Ev.look (ev_callD1 c.toCw W (d_law_take g) (Nat.le_trans (by decide) hk) (by decide +kernel) (i := 0) (by decide +kernel) (by rfl) (by rfl) ev_int)) (Ev.look ev_int)) (run_set c (i := 8) (by decide +kernel) (by rfl) (ev_tuple c.toCw g.bt (by decide +kernel) (Ev.look (EvL.ev (evl_comp c.toCw (i := 9) (by decide +kernel) (by rfl) (by decide +kernel) (by rfl) (by rfl) (evj_seq (Ev.look (ev_var c.toCw (i := 7) (by decide +kernel) (by rfl) (by rfl)))) (fun v_law_entry s0 H0 C cl fp => have c3 := Cw.blk c.toCw cx0F s0 H0 _ C cl fp; have W4 := NoW.calm W; (ev_callD1 c3 W4 (d_law_take g) (Nat.le_trans (by decide) hk) (by decide +kernel) (i := 0) (by decide +kernel) (by rfl) (by rfl) (ev_add (Ev.look (ev_var c3 (i := 9) (by decide +kernel) (by rfl) (by rfl))) (Ev.look ev_int)))))))) (fun v_law_low => (run_nil (le_eq (le_eq (le_eq (le_eq (le_eq (le_eq (le_eq (le_eq (le_eq (le_no le_nil))))))))))))) (run_nil (le_eq (le_eq (le_eq (le_eq (le_eq (le_eq (le_eq (le_eq (le_eq (le_no le_nil))))))))))) (fun s2 => (run_app c (i := 4) (by decide +kernel) (by rfl) (by rfl) (ev_tup4 (ev_ix (Ev.look (ev_var c.toCw (i := 2) (by decide +kernel) (by rfl) (by rfl))) (Ev.look (ev_add (Ev.look ev_int) (Ev.look (ev_var c.toCw (i := 5) (by decide +kernel) (by rfl) (by rfl)))))) (ev_var c.toCw (i := 6) (by decide +kernel) (by rfl) (by rfl)) (ev_var c.toCw (i := 8) (by decide +kernel) (by rfl) (by rfl)) (ev_var c.toCw (i := 7) (by decide +kernel) (by rfl) (by rfl))) (fun v_law_moves => (run_nil (le_eq (le_eq (le_eq (le_eq (le_eq (le_no (le_no (le_no (le_no (le_no le_nil)))))))))))))))))))))) (fun s1 => (run_ret (t := ()) (ev_tup2 (ev_tuple c.toCw g.bt (by decide +kernel) (Ev.look (ev_slice (Ev.look (ev_var c.toCw (i := 2) (by decide +kernel) (by rfl) (by rfl))) evp_none (evp_some (Ev.look (ev_var c.toCw (i := 3) (by decide +kernel) (by rfl) (by rfl))))))) (ev_tuple c.toCw g.bt (by decide +kernel) (evb_own c.toCw (i := 4) (by decide +kernel) (by rfl) (by rfl)))) ht0)))))))))
theorem d_law_book {P : Program} {w : World} {K : PySem.W.Frag} {mg : Str → Option Value} {base : Heap} (g : G P w K mg base) : Df P w K mg base CX0 3 "_law_book" (spD K 1 (l1 m_law_book)) :=
  df_ofD g.at_law_book s_law_book (n := 1) rfl (m := l1 m_law_book) (o := l1 o_law_book) (fun ds hl => match ds, hl with | [v_law_most], _ => (show m_law_book v_law_most = endR0 (o_law_book v_law_most) from rfl))
    fun X a c e1 e2 e3 e4 e5 => by subst e1 e2 e3 e4 e5; exact fun ds hl => match ds, hl with | [v_law_most], _ => r_law_book c (noWD a) g (by decide) v_law_most
theorem s_law_items : FnScope ["_law_draws_here", "_law_kinds", "_law_words", "_law_mixed", "_law_items_here", "_law_at", "_law_k"] ["_law_draws_here", "_law_kinds", "_law_words", "_law_mixed"] (defScope (top 45)) := ⟨rfl, rfl, rfl, by decide +kernel, rfl, by decide +kernel, by decide +kernel⟩
theorem r_law_items {X : Cx} {k : Nat} {dra : Addr × Addr} (c : Cd CX0 k (wdD dra) ["_law_draws_here", "_law_kinds", "_law_words", "_law_mixed", "_law_items_here", "_law_at", "_law_k"] (defScope (top 45)) X) (W : NoW (wdD dra)) (g : G X.prog X.w X.K X.mg X.base) (hk : 1 ≤ k) (v_law_kinds v_law_words v_law_mixed : D) :
    Run X (wdD dra) (fun _ : Unit => [.no, .no, .no, .no, .no, .no, .no]) (fun e : Empty => e.elim) (fun _ : Unit => []) [.w, .d v_law_kinds, .d v_law_words, .d v_law_mixed, .no, .no, .no] (defBody (top 45)) (o_law_items v_law_kinds v_law_words v_law_mixed) :=
  (run_setCif c (i := 4) (by decide +kernel) (by rfl) (j := 6) (by decide +kernel) (by rfl) (by decide +kernel) (by rfl) (by rfl) (EvI.j (evi_r1 c.toCw g.bt (by decide +kernel) (Ev.look (ev_len c.toCw g.bt (by decide +kernel) (Ev.look (ev_var c.toCw (i := 1) (by decide +kernel) (by rfl) (by rfl))))))) (fun v_law_k s0 H0 C cl fp => have c2 := Cw.blk c.toCw cx0F s0 H0 _ C cl fp; have W3 := NoW.calm W; (evt_ne c2 (Ev.look (ev_ix (Ev.look (ev_var c2 (i := 2) (by decide +kernel) (by rfl) (by rfl))) (Ev.look (ev_var c2 (i := 6) (by decide +kernel) (by rfl) (by rfl))))) (Ev.look ev_str))) (fun v_law_k s0 H0 C cl fp => have c2 := Cw.blk c.toCw cx0F s0 H0 _ C cl fp; have W3 := NoW.calm W; (ev_add (Ev.look (ev_add (Ev.look (ev_ix (Ev.look (ev_var c2 (i := 2) (by decide +kernel) (by rfl) (by rfl))) (Ev.look (ev_var c2 (i := 6) (by decide +kernel) (by rfl) (by rfl))))) (Ev.look ev_str))) (Ev.look (ev_ix (Ev.look (ev_var c2 (i := 1) (by decide +kernel) (by rfl) (by rfl))) (Ev.look (ev_var c2 (i := 6) (by decide +kernel) (by rfl) (by rfl))))))) (fun v_law_items_here => (run_if (eS1 := fun (s1 : D) => [.w, .d v_law_kinds, .d v_law_words, .d v_law_mixed, .d s1, .no, .no]) (evt_val (Ev.look (ev_var c.toCw (i := 3) (by decide +kernel) (by rfl) (by rfl)))) (run_set c (i := 5) (by decide +kernel) (by rfl) (ev_callD1 c.toCw W (d_law_take g) (Nat.le_trans (by decide) hk) (by decide +kernel) (i := 0) (by decide +kernel) (by rfl) (by rfl) (ev_add (Ev.look (ev_len c.toCw g.bt (by decide +kernel) (Ev.look (ev_var c.toCw (i := 4) (by decide +kernel) (by rfl) (by rfl))))) (Ev.look ev_int))) (fun v_law_at => (run_set c (i := 4) (by decide +kernel) (by rfl) (ev_add (Ev.look (ev_slice (Ev.look (ev_var c.toCw (i := 4) (by decide +kernel) (by rfl) (by rfl))) (evp_some (Ev.look (ev_var c.toCw (i := 5) (by decide +kernel) (by rfl) (by rfl)))) evp_none)) (Ev.look (ev_slice (Ev.look (ev_var c.toCw (i := 4) (by decide +kernel) (by rfl) (by rfl))) evp_none (evp_some (Ev.look (ev_var c.toCw (i := 5) (by decide +kernel) (by rfl) (by rfl))))))) (fun v_law_items_here => (run_if1 (evt_eq c.toCw (Ev.look (ev_callD1 c.toCw W (d_law_take g) (Nat.le_trans (by decide) hk) (by decide +kernel) (i := 0) (by decide +kernel) (by rfl) (by rfl) ev_int)) (Ev.look ev_int)) (run_set c (i := 4) (by decide +kernel) (by rfl) (ev_revL (Ev.look (ev_var c.toCw (i := 4) (by decide +kernel) (by rfl) (by rfl)))) (fun v_law_items_here => (run_nil (le_eq (le_eq (le_eq (le_eq (le_eq (le_no (le_no le_nil)))))))))) (run_nil (le_eq (le_eq (le_eq (le_eq (le_eq (le_no (le_no le_nil))))))))))))) (run_nil (le_eq (le_eq (le_eq (le_eq (le_eq (le_no (le_no le_nil)))))))) (fun s1 => (run_ifx (eE := fun e => e.elim) (evt_eq c.toCw (Ev.look (ev_var c.toCw (i := 4) (by decide +kernel) (by rfl) (by rfl))) (Ev.look (EvL.ev evl_nil))) (run_ret (t := ()) ev_str ht0) (run_ret (t := ()) (ev_join (Ev.look ev_str) (Ev.look (ev_var c.toCw (i := 4) (by decide +kernel) (by rfl) (by rfl)))) ht0))))))
theorem d_law_items {P : Program} {w : World} {K : PySem.W.Frag} {mg : Str → Option Value} {base : Heap} (g : G P w K mg base) : Df P w K mg base CX0 2 "_law_items" (spD K 3 (l3 m_law_items)) :=
  df_ofD g.at_law_items s_law_items (n := 3) rfl (m := l3 m_law_items) (o := l3 o_law_items) (fun ds hl => match ds, hl with | [v_law_kinds, v_law_words, v_law_mixed], _ => (show m_law_items v_law_kinds v_law_words v_law_mixed = endR0 (o_law_items v_law_kinds v_law_words v_law_mixed) from rfl))
    fun X a c e1 e2 e3 e4 e5 => by subst e1 e2 e3 e4 e5; exact fun ds hl => match ds, hl with | [v_law_kinds, v_law_words, v_law_mixed], _ => r_law_items c (noWD a) g (by decide) v_law_kinds v_law_words v_law_mixed
theorem s_law_word : FnScope ["_law_number"] ["_law_number"] (defScope (top 46)) := ⟨rfl, rfl, rfl, by decide +kernel, rfl, by decide +kernel, by decide +kernel⟩
theorem r_law_word {X : Cx} {k : Nat} (c : Cd CX0 k wd0 ["_law_number"] (defScope (top 46)) X) (W : NoW wd0) (g : G X.prog X.w X.K X.mg X.base) (hk : 0 ≤ k) (v_law_number : D) :
    Run X wd0 (fun _ : Unit => [.no]) (fun e : Empty => e.elim) (fun _ : Unit => []) [.d v_law_number] (defBody (top 46)) (o_law_word v_law_number) :=
  (run_ifx (eE := fun e => e.elim) (evt_eq c.toCw (Ev.look (ev_var c.toCw (i := 0) (by decide +kernel) (by rfl) (by rfl))) (Ev.look (ev_neg (Ev.look ev_int)))) (run_ret (t := ()) ev_str ht0) (run_ret (t := ()) (ev_ifExp (evt_eq c.toCw (Ev.look (ev_var c.toCw (i := 0) (by decide +kernel) (by rfl) (by rfl))) (Ev.look ev_int)) ev_str (ev_strI c.toCw g.bt (by decide +kernel) (Ev.look (ev_var c.toCw (i := 0) (by decide +kernel) (by rfl) (by rfl))))) ht0))
theorem d_law_word {P : Program} {w : World} {K : PySem.W.Frag} {mg : Str → Option Value} {base : Heap} (g : G P w K mg base) : Df P w K mg base CX0 1 "_law_word" (spP K 1 (l1 m_law_word)) :=
  df_of g.at_law_word s_law_word (m := l1 m_law_word) (o := l1 o_law_word) (fun ds hl => match ds, hl with | [v_law_number], _ => (show m_law_word v_law_number = endR0 (o_law_word v_law_number) from rfl))
    fun X c e1 e2 e3 e4 e5 e6 => by subst e1 e2 e3 e4 e5; exact fun ds hl => match ds, hl with | [v_law_number], _ => r_law_word c noW0 g (by decide) v_law_number
theorem s_law_stock_text : FnScope ["_law_draws_here", "_law_kinds", "_law_stock_here", "_law_mixed", "_law_entry"] ["_law_draws_here", "_law_kinds", "_law_stock_here", "_law_mixed"] (defScope (top 48)) := ⟨rfl, rfl, rfl, by decide +kernel, rfl, by decide +kernel, by decide +kernel⟩
theorem r_law_stock_text {X : Cx} {k : Nat} {dra : Addr × Addr} (c : Cd CX0 k (wdD dra) ["_law_draws_here", "_law_kinds", "_law_stock_here", "_law_mixed", "_law_entry"] (defScope (top 48)) X) (W : NoW (wdD dra)) (g : G X.prog X.w X.K X.mg X.base) (hk : 2 ≤ k) (v_law_kinds v_law_stock_here v_law_mixed : D) :
    Run X (wdD dra) (fun _ : Unit => [.no, .no, .no, .no, .no]) (fun e : Empty => e.elim) (fun _ : Unit => []) [.w, .d v_law_kinds, .d v_law_stock_here, .d v_law_mixed, .no] (defBody (top 48)) (o_law_stock_text v_law_kinds v_law_stock_here v_law_mixed) :=
  (run_ret (t := ()) (ev_callD3 c.toCw W (d_law_items g) (Nat.le_trans (by decide) hk) (by decide +kernel) (i := 0) (by decide +kernel) (by rfl) (by rfl) (ev_var c.toCw (i := 1) (by decide +kernel) (by rfl) (by rfl)) (EvL.ev (evl_comp c.toCw (i := 4) (by decide +kernel) (by rfl) (by decide +kernel) (by rfl) (by rfl) (evj_seq (Ev.look (ev_var c.toCw (i := 2) (by decide +kernel) (by rfl) (by rfl)))) (fun v_law_entry s0 H0 C cl fp => have c1 := Cw.blk c.toCw cx0F s0 H0 _ C cl fp; have W2 := NoW.calm W; (ev_call1 c1 W2 (d_law_word g) (Nat.le_trans (by decide) hk) (by decide +kernel) (ev_var c1 (i := 4) (by decide +kernel) (by rfl) (by rfl)))))) (ev_var c.toCw (i := 3) (by decide +kernel) (by rfl) (by rfl))) ht0)
theorem d_law_stock_text {P : Program} {w : World} {K : PySem.W.Frag} {mg : Str → Option Value} {base : Heap} (g : G P w K mg base) : Df P w K mg base CX0 3 "_law_stock_text" (spD K 3 (l3 m_law_stock_text)) :=
  df_ofD g.at_law_stock_text s_law_stock_text (n := 3) rfl (m := l3 m_law_stock_text) (o := l3 o_law_stock_text) (fun ds hl => match ds, hl with | [v_law_kinds, v_law_stock_here, v_law_mixed], _ => (show m_law_stock_text v_law_kinds v_law_stock_here v_law_mixed = endR0 (o_law_stock_text v_law_kinds v_law_stock_here v_law_mixed) from rfl))
    fun X a c e1 e2 e3 e4 e5 => by subst e1 e2 e3 e4 e5; exact fun ds hl => match ds, hl with | [v_law_kinds, v_law_stock_here, v_law_mixed], _ => r_law_stock_text c (noWD a) g (by decide) v_law_kinds v_law_stock_here v_law_mixed
theorem s_law_run : FnScope ["_law_draws_here", "_law_moves", "_law_depth", "_law_times", "_law_steps", "_law_k", "_law_inner"] ["_law_draws_here", "_law_moves", "_law_depth", "_law_times"] (defScope (top 44)) := ⟨rfl, rfl, rfl, by decide +kernel, rfl, by decide +kernel, by decide +kernel⟩
theorem r_law_run {X : Cx} {k : Nat} {dra : Addr × Addr} (c : Cd CX0 k (wdD dra) ["_law_draws_here", "_law_moves", "_law_depth", "_law_times", "_law_steps", "_law_k", "_law_inner"] (defScope (top 44)) X) (W : NoW (wdD dra)) (g : G X.prog X.w X.K X.mg X.base) (hk : 1 ≤ k) {j : Nat} {rec : D → D → D → R D} (hrec : Df X.prog X.w X.K X.mg X.base CX0 j "_law_run" (spD X.K 3 (l3 rec))) (hj : j + 0 ≤ k) (hb : 2 ≤ j) (v_law_moves v_law_depth v_law_times : D) :
    Run X (wdD dra) (fun _ : Unit => [.no, .no, .no, .no, .no, .no, .no]) (fun e : Empty => e.elim) (fun _ : Unit => []) [.w, .d v_law_moves, .d v_law_depth, .d v_law_times, .no, .no, .no] (defBody (top 44)) (o_law_run rec v_law_moves v_law_depth v_law_times) :=
  (run_setO c (i := 4) (by decide +kernel) (by rfl) (by rfl) evl_nil (fun v_law_steps => (run_for (S1 := List D) (eS1 := fun (s1 : List D) => [.w, .d v_law_moves, .d v_law_depth, .d v_law_times, .l s1, .no, .no]) (s0 := v_law_steps) c (i := 5) (by decide +kernel) (by rfl) (evi_r1 c.toCw g.bt (by decide +kernel) (Ev.look (ev_callD1 c.toCw W (d_law_take g) (Nat.le_trans (by decide) hk) (by decide +kernel) (i := 0) (by decide +kernel) (by rfl) (by rfl) ev_int))) (le_eq (le_eq (le_eq (le_eq (le_eq (le_no (le_no le_nil))))))) (fun s1 v_law_k => (run_ifx (eE := fun e => e.elim) (evt_eq c.toCw (Ev.look (ev_var c.toCw (i := 1) (by decide +kernel) (by rfl) (by rfl))) (Ev.look ev_int)) (run_ret (t := ()) ev_tup0 ht0) (run_set c (i := 6) (by decide +kernel) (by rfl) ev_tup0 (fun v_law_inner => (run_if (eS1 := fun (s2 : D) => [.w, .d v_law_moves, .d v_law_depth, .d v_law_times, .l s1, .d v_law_k, .d s2]) (evt_w (evw_and (evt_gt (Ev.look (ev_var c.toCw (i := 2) (by decide +kernel) (by rfl) (by rfl))) (Ev.look ev_int)) (evw_and1 (evt_eq c.toCw (Ev.look (ev_callD1 c.toCw W (d_law_take g) (Nat.le_trans (by decide) hk) (by decide +kernel) (i := 0) (by decide +kernel) (by rfl) (by rfl) ev_int)) (Ev.look ev_int))))) (run_set c (i := 6) (by decide +kernel) (by rfl) (ev_callD3 c.toCw W hrec (by omega) (by decide +kernel) (i := 0) (by decide +kernel) (by rfl) (by rfl) (ev_var c.toCw (i := 1) (by decide +kernel) (by rfl) (by rfl)) (ev_sub (Ev.look (ev_var c.toCw (i := 2) (by decide +kernel) (by rfl) (by rfl))) (Ev.look ev_int)) (ev_var c.toCw (i := 3) (by decide +kernel) (by rfl) (by rfl))) (fun v_law_inner => (run_nil (le_eq (le_eq (le_eq (le_eq (le_eq (le_eq (le_eq le_nil)))))))))) (run_nil (le_eq (le_eq (le_eq (le_eq (le_eq (le_eq (le_eq le_nil)))))))) (fun s2 => (run_if1 (evt_eq c.toCw (Ev.look (ev_var c.toCw (i := 6) (by decide +kernel) (by rfl) (by rfl))) (Ev.look ev_tup0)) (run_app c (i := 4) (by decide +kernel) (by rfl) (by rfl) (ev_tup2 ev_str (ev_callD1 c.toCw W (d_law_take g) (Nat.le_trans (by decide) hk) (by decide +kernel) (i := 0) (by decide +kernel) (by rfl) (by rfl) (ev_var c.toCw (i := 1) (by decide +kernel) (by rfl) (by rfl)))) (fun v_law_steps => (run_nil (le_eq (le_eq (le_eq (le_eq (le_eq (le_no (le_no le_nil)))))))))) (run_app c (i := 4) (by decide +kernel) (by rfl) (by rfl) (ev_tup3 ev_str (ev_add (Ev.look ev_int) (Ev.look (ev_callD1 c.toCw W (d_law_take g) (Nat.le_trans (by decide) hk) (by decide +kernel) (i := 0) (by decide +kernel) (by rfl) (by rfl) (ev_var c.toCw (i := 3) (by decide +kernel) (by rfl) (by rfl))))) (ev_var c.toCw (i := 6) (by decide +kernel) (by rfl) (by rfl))) (fun v_law_steps => (run_nil (le_eq (le_eq (le_eq (le_eq (le_eq (le_no (le_no le_nil))))))))))))))))) (fun s1 => (run_ret (t := ()) (ev_tuple c.toCw g.bt (by decide +kernel) (evb_own c.toCw (i := 4) (by decide +kernel) (by rfl) (by rfl))) ht0)))))
theorem d_law_run {P : Program} {w : World} {K : PySem.W.Frag} {mg : Str → Option Value} {base : Heap} (g : G P w K mg base) : ∀ n : Nat, Df P w K mg base CX0 (2 + 1 * n) "_law_run" (spD K 3 (l3 (m_law_run n)))
  | 0 => df_badD g.at_law_run fun ds => (by unfold l3; split <;> rfl)
  | n + 1 => df_ofD (k := 2 + 1 * n + 0) g.at_law_run s_law_run (n := 3) rfl (m := l3 (m_law_run (n + 1))) (o := l3 (o_law_run (m_law_run n))) (fun ds hl => match ds, hl with | [v_law_moves, v_law_depth, v_law_times], _ => rfl)
      fun X a c e1 e2 e3 e4 e5 => by subst e1 e2 e3 e4 e5; exact fun ds hl => match ds, hl with | [v_law_moves, v_law_depth, v_law_times], _ => r_law_run (k := 2 + 1 * n + 0) c (noWD a) g (by omega) (d_law_run g n) (by omega) (by omega) v_law_moves v_law_depth v_law_times
theorem s_print_items : FnScope ["kinds", "items", "words", "k"] ["kinds", "items"] (defScope (top 15)) := ⟨rfl, rfl, rfl, by decide +kernel, rfl, by decide +kernel, by decide +kernel⟩
theorem r_print_items {X : Cx} {k : Nat} (c : Cd CX0 k wd0 ["kinds", "items", "words", "k"] (defScope (top 15)) X) (W : NoW wd0) (g : G X.prog X.w X.K X.mg X.base) (hk : 0 ≤ k) (v_kinds v_items : D) :
    Run X wd0 (fun _ : Unit => [.no, .no, .no, .no]) (fun e : Empty => e.elim) (fun _ : Unit => []) [.d v_kinds, .d v_items, .no, .no] (defBody (top 15)) (o_print_items v_kinds v_items) :=
  (run_setCif c (i := 2) (by decide +kernel) (by rfl) (j := 3) (by decide +kernel) (by rfl) (by decide +kernel) (by rfl) (by rfl) (EvI.j (evi_r1 c.toCw g.bt (by decide +kernel) (Ev.look (ev_len c.toCw g.bt (by decide +kernel) (Ev.look (ev_var c.toCw (i := 0) (by decide +kernel) (by rfl) (by rfl))))))) (fun v_k s0 H0 C cl fp => have c1 := Cw.blk c.toCw cx0F s0 H0 _ C cl fp; have W2 := NoW.calm W; (evt_isNot (Ev.look (ev_ix (Ev.look (ev_var c1 (i := 1) (by decide +kernel) (by rfl) (by rfl))) (Ev.look (ev_var c1 (i := 3) (by decide +kernel) (by rfl) (by rfl))))) (Ev.look ev_non))) (fun v_k s0 H0 C cl fp => have c1 := Cw.blk c.toCw cx0F s0 H0 _ C cl fp; have W2 := NoW.calm W; (ev_add (Ev.look (ev_add (Ev.look (ev_ix (Ev.look (ev_var c1 (i := 1) (by decide +kernel) (by rfl) (by rfl))) (Ev.look (ev_var c1 (i := 3) (by decide +kernel) (by rfl) (by rfl))))) (Ev.look ev_str))) (Ev.look (ev_ix (Ev.look (ev_var c1 (i := 0) (by decide +kernel) (by rfl) (by rfl))) (Ev.look (ev_var c1 (i := 3) (by decide +kernel) (by rfl) (by rfl))))))) (fun v_words => (run_ret (t := ()) (ev_ifExp (evt_gt (Ev.look (ev_len c.toCw g.bt (by decide +kernel) (Ev.look (ev_var c.toCw (i := 2) (by decide +kernel) (by rfl) (by rfl))))) (Ev.look ev_int)) (ev_join (Ev.look ev_str) (Ev.look (ev_var c.toCw (i := 2) (by decide +kernel) (by rfl) (by rfl)))) ev_str) ht0)))
theorem d_print_items {P : Program} {w : World} {K : PySem.W.Frag} {mg : Str → Option Value} {base : Heap} (g : G P w K mg base) : Df P w K mg base CX0 1 "print_items" (spP K 2 (l2 m_print_items)) :=
  df_of g.at_print_items s_print_items (m := l2 m_print_items) (o := l2 o_print_items) (fun ds hl => match ds, hl with | [v_kinds, v_items], _ => (show m_print_items v_kinds v_items = endR0 (o_print_items v_kinds v_items) from rfl))
    fun X c e1 e2 e3 e4 e5 e6 => by subst e1 e2 e3 e4 e5; exact fun ds hl => match ds, hl with | [v_kinds, v_items], _ => r_print_items c noW0 g (by decide) v_kinds v_items
theorem s_written : FnScope ["number"] ["number"] (defScope (top 16)) := ⟨rfl, rfl, rfl, by decide +kernel, rfl, by decide +kernel, by decide +kernel⟩
theorem r_written {X : Cx} {k : Nat} (c : Cd CX0 k wd0 ["number"] (defScope (top 16)) X) (W : NoW wd0) (g : G X.prog X.w X.K X.mg X.base) (hk : 0 ≤ k) (v_number : D) :
    Run X wd0 (fun _ : Unit => [.no]) (fun e : Empty => e.elim) (fun _ : Unit => []) [.d v_number] (defBody (top 16)) (o_written v_number) :=
  (run_ifx (eE := fun e => e.elim) (evt_eq c.toCw (Ev.look (ev_var c.toCw (i := 0) (by decide +kernel) (by rfl) (by rfl))) (Ev.look (ev_neg (Ev.look ev_int)))) (run_ret (t := ()) ev_str ht0) (run_ret (t := ()) (ev_ifExp (evt_gt (Ev.look (ev_var c.toCw (i := 0) (by decide +kernel) (by rfl) (by rfl))) (Ev.look ev_int)) (ev_strI c.toCw g.bt (by decide +kernel) (Ev.look (ev_var c.toCw (i := 0) (by decide +kernel) (by rfl) (by rfl)))) ev_non) ht0))
theorem d_written {P : Program} {w : World} {K : PySem.W.Frag} {mg : Str → Option Value} {base : Heap} (g : G P w K mg base) : Df P w K mg base CX0 1 "written" (spP K 1 (l1 m_written)) :=
  df_of g.at_written s_written (m := l1 m_written) (o := l1 o_written) (fun ds hl => match ds, hl with | [v_number], _ => (show m_written v_number = endR0 (o_written v_number) from rfl))
    fun X c e1 e2 e3 e4 e5 e6 => by subst e1 e2 e3 e4 e5; exact fun ds hl => match ds, hl with | [v_number], _ => r_written c noW0 g (by decide) v_number
theorem s_print_range : FnScope ["least", "most"] ["least", "most"] (defScope (top 18)) := ⟨rfl, rfl, rfl, by decide +kernel, rfl, by decide +kernel, by decide +kernel⟩
theorem r_print_range {X : Cx} {k : Nat} (c : Cd CX0 k wd0 ["least", "most"] (defScope (top 18)) X) (W : NoW wd0) (g : G X.prog X.w X.K X.mg X.base) (hk : 1 ≤ k) (v_least v_most : D) :
    Run X wd0 (fun _ : Unit => [.no, .no]) (fun e : Empty => e.elim) (fun _ : Unit => []) [.d v_least, .d v_most] (defBody (top 18)) (o_print_range v_least v_most) :=
  (run_ifx (eE := fun e => e.elim) (evt_w (evw_or (evt_eq c.toCw (Ev.look (ev_var c.toCw (i := 1) (by decide +kernel) (by rfl) (by rfl))) (Ev.look ev_int)) (evw_or1 (evt_eq c.toCw (Ev.look (ev_var c.toCw (i := 0) (by decide +kernel) (by rfl) (by rfl))) (Ev.look (ev_var c.toCw (i := 1) (by decide +kernel) (by rfl) (by rfl))))))) (run_ret (t := ()) (ev_call1 c.toCw W (d_written g) (Nat.le_trans (by decide) hk) (by decide +kernel) (ev_var c.toCw (i := 1) (by decide +kernel) (by rfl) (by rfl))) ht0) (run_ret (t := ()) (ev_add (Ev.look (ev_add (Ev.look (ev_strI c.toCw g.bt (by decide +kernel) (Ev.look (ev_var c.toCw (i := 0) (by decide +kernel) (by rfl) (by rfl))))) (Ev.look ev_str))) (Ev.look (ev_strI c.toCw g.bt (by decide +kernel) (Ev.look (ev_var c.toCw (i := 1) (by decide +kernel) (by rfl) (by rfl)))))) ht0))
theorem d_print_range {P : Program} {w : World} {K : PySem.W.Frag} {mg : Str → Option Value} {base : Heap} (g : G P w K mg base) : Df P w K mg base CX0 2 "print_range" (spP K 2 (l2 m_print_range)) :=
  df_of g.at_print_range s_print_range (m := l2 m_print_range) (o := l2 o_print_range) (fun ds hl => match ds, hl with | [v_least, v_most], _ => (show m_print_range v_least v_most = endR0 (o_print_range v_least v_most) from rfl))
    fun X c e1 e2 e3 e4 e5 e6 => by subst e1 e2 e3 e4 e5; exact fun ds hl => match ds, hl with | [v_least, v_most], _ => r_print_range c noW0 g (by decide) v_least v_most
theorem s_print_stock : FnScope ["book", "stock", "number"] ["book", "stock"] (defScope (top 17)) := ⟨rfl, rfl, rfl, by decide +kernel, rfl, by decide +kernel, by decide +kernel⟩
theorem r_print_stock {X : Cx} {k : Nat} (c : Cd CX0 k wd0 ["book", "stock", "number"] (defScope (top 17)) X) (W : NoW wd0) (g : G X.prog X.w X.K X.mg X.base) (hk : 1 ≤ k) (v_book v_stock : D) :
    Run X wd0 (fun _ : Unit => [.no, .no, .no]) (fun e : Empty => e.elim) (fun _ : Unit => []) [.d v_book, .d v_stock, .no] (defBody (top 17)) (o_print_stock v_book v_stock) :=
  (run_ret (t := ()) (ev_call2 c.toCw W (d_print_items g) (Nat.le_trans (by decide) hk) (by decide +kernel) (ev_ix (Ev.look (ev_var c.toCw (i := 0) (by decide +kernel) (by rfl) (by rfl))) (Ev.look ev_int)) (EvL.ev (evl_comp c.toCw (i := 2) (by decide +kernel) (by rfl) (by decide +kernel) (by rfl) (by rfl) (evj_seq (Ev.look (ev_var c.toCw (i := 1) (by decide +kernel) (by rfl) (by rfl)))) (fun v_number s0 H0 C cl fp => have c1 := Cw.blk c.toCw cx0F s0 H0 _ C cl fp; have W2 := NoW.calm W; (ev_call1 c1 W2 (d_written g) (Nat.le_trans (by decide) hk) (by decide +kernel) (ev_var c1 (i := 2) (by decide +kernel) (by rfl) (by rfl))))))) ht0)
theorem d_print_stock {P : Program} {w : World} {K : PySem.W.Frag} {mg : Str → Option Value} {base : Heap} (g : G P w K mg base) : Df P w K mg base CX0 2 "print_stock" (spP K 2 (l2 m_print_stock)) :=
  df_of g.at_print_stock s_print_stock (m := l2 m_print_stock) (o := l2 o_print_stock) (fun ds hl => match ds, hl with | [v_book, v_stock], _ => (show m_print_stock v_book v_stock = endR0 (o_print_stock v_book v_stock) from rfl))
    fun X c e1 e2 e3 e4 e5 e6 => by subst e1 e2 e3 e4 e5; exact fun ds hl => match ds, hl with | [v_book, v_stock], _ => r_print_stock c noW0 g (by decide) v_book v_stock
theorem s_print_move : FnScope ["book", "move", "name", "take", "least", "most", "give", "k"] ["book", "move"] (defScope (top 19)) := ⟨rfl, rfl, rfl, by decide +kernel, rfl, by decide +kernel, by decide +kernel⟩
theorem r_print_move {X : Cx} {k : Nat} (c : Cd CX0 k wd0 ["book", "move", "name", "take", "least", "most", "give", "k"] (defScope (top 19)) X) (W : NoW wd0) (g : G X.prog X.w X.K X.mg X.base) (hk : 2 ≤ k) (v_book v_move : D) :
    Run X wd0 (fun _ : Unit => [.no, .no, .no, .no, .no, .no, .no, .no]) (fun e : Empty => e.elim) (fun _ : Unit => []) [.d v_book, .d v_move, .no, .no, .no, .no, .no, .no] (defBody (top 19)) (o_print_move v_book v_move) :=
  (run_unp4 c (i := 2) (j := 3) (l := 4) (m := 5) (by decide +kernel) (by rfl) (by decide +kernel) (by rfl) (by decide +kernel) (by rfl) (by decide +kernel) (by rfl) (ev_var c.toCw (i := 1) (by decide +kernel) (by rfl) (by rfl)) (fun v_name v_take v_least v_most => (run_set c (i := 6) (by decide +kernel) (by rfl) (ev_call2 c.toCw W (d_print_items g) (Nat.le_trans (by decide) hk) (by decide +kernel) (ev_ix (Ev.look (ev_var c.toCw (i := 0) (by decide +kernel) (by rfl) (by rfl))) (Ev.look ev_int)) (EvL.ev (evl_comp c.toCw (i := 7) (by decide +kernel) (by rfl) (by decide +kernel) (by rfl) (by rfl) (EvI.j (evi_r1 c.toCw g.bt (by decide +kernel) (Ev.look (ev_len c.toCw g.bt (by decide +kernel) (Ev.look (ev_var c.toCw (i := 5) (by decide +kernel) (by rfl) (by rfl))))))) (fun v_k s0 H0 C cl fp => have c1 := Cw.blk c.toCw cx0F s0 H0 _ C cl fp; have W2 := NoW.calm W; (ev_call2 c1 W2 (d_print_range g) (Nat.le_trans (by decide) hk) (by decide +kernel) (ev_ix (Ev.look (ev_var c1 (i := 4) (by decide +kernel) (by rfl) (by rfl))) (Ev.look (ev_var c1 (i := 7) (by decide +kernel) (by rfl) (by rfl)))) (ev_ix (Ev.look (ev_var c1 (i := 5) (by decide +kernel) (by rfl) (by rfl))) (Ev.look (ev_var c1 (i := 7) (by decide +kernel) (by rfl) (by rfl))))))))) (fun v_give => (run_ret (t := ()) (ev_add (Ev.look (ev_add (Ev.look (ev_add (Ev.look (ev_add (Ev.look (ev_var c.toCw (i := 2) (by decide +kernel) (by rfl) (by rfl))) (Ev.look ev_str))) (Ev.look (ev_call2 c.toCw W (d_print_stock g) (Nat.le_trans (by decide) hk) (by decide +kernel) (ev_var c.toCw (i := 0) (by decide +kernel) (by rfl) (by rfl)) (ev_var c.toCw (i := 3) (by decide +kernel) (by rfl) (by rfl)))))) (Ev.look ev_str))) (Ev.look (ev_var c.toCw (i := 6) (by decide +kernel) (by rfl) (by rfl)))) ht0)))))
theorem d_print_move {P : Program} {w : World} {K : PySem.W.Frag} {mg : Str → Option Value} {base : Heap} (g : G P w K mg base) : Df P w K mg base CX0 3 "print_move" (spP K 2 (l2 m_print_move)) :=
  df_of g.at_print_move s_print_move (m := l2 m_print_move) (o := l2 o_print_move) (fun ds hl => match ds, hl with | [v_book, v_move], _ => (show m_print_move v_book v_move = endR0 (o_print_move v_book v_move) from rfl))
    fun X c e1 e2 e3 e4 e5 e6 => by subst e1 e2 e3 e4 e5; exact fun ds hl => match ds, hl with | [v_book, v_move], _ => r_print_move c noW0 g (by decide) v_book v_move
theorem s_print_book : FnScope ["book", "move"] ["book"] (defScope (top 20)) := ⟨rfl, rfl, rfl, by decide +kernel, rfl, by decide +kernel, by decide +kernel⟩
theorem r_print_book {X : Cx} {k : Nat} (c : Cd CX0 k wd0 ["book", "move"] (defScope (top 20)) X) (W : NoW wd0) (g : G X.prog X.w X.K X.mg X.base) (hk : 3 ≤ k) (v_book : D) :
    Run X wd0 (fun _ : Unit => [.no, .no]) (fun e : Empty => e.elim) (fun _ : Unit => []) [.d v_book, .no] (defBody (top 20)) (o_print_book v_book) :=
  (run_ret (t := ()) (ev_join (Ev.look ev_str) (Ev.look (ev_add (Ev.look (EvL.ev (evl_lst1 (ev_join (Ev.look ev_str) (Ev.look (ev_add (Ev.look (ev_tup1 ev_str)) (Ev.look (ev_ix (Ev.look (ev_var c.toCw (i := 0) (by decide +kernel) (by rfl) (by rfl))) (Ev.look ev_int))))))))) (Ev.look (EvL.ev (evl_comp c.toCw (i := 1) (by decide +kernel) (by rfl) (by decide +kernel) (by rfl) (by rfl) (evj_seq (Ev.look (ev_ix (Ev.look (ev_var c.toCw (i := 0) (by decide +kernel) (by rfl) (by rfl))) (Ev.look ev_int)))) (fun v_move s0 H0 C cl fp => have c1 := Cw.blk c.toCw cx0F s0 H0 _ C cl fp; have W2 := NoW.calm W; (ev_call2 c1 W2 (d_print_move g) (Nat.le_trans (by decide) hk) (by decide +kernel) (ev_var c1 (i := 0) (by decide +kernel) (by rfl) (by rfl)) (ev_var c1 (i := 1) (by decide +kernel) (by rfl) (by rfl)))))))))) ht0)
theorem d_print_book {P : Program} {w : World} {K : PySem.W.Frag} {mg : Str → Option Value} {base : Heap} (g : G P w K mg base) : Df P w K mg base CX0 4 "print_book" (spP K 1 (l1 m_print_book)) :=
  df_of g.at_print_book s_print_book (m := l1 m_print_book) (o := l1 o_print_book) (fun ds hl => match ds, hl with | [v_book], _ => (show m_print_book v_book = endR0 (o_print_book v_book) from rfl))
    fun X c e1 e2 e3 e4 e5 e6 => by subst e1 e2 e3 e4 e5; exact fun ds hl => match ds, hl with | [v_book], _ => r_print_book c noW0 g (by decide) v_book
theorem s_law_range : FnScope ["_law_low", "_law_high"] ["_law_low", "_law_high"] (defScope (top 47)) := ⟨rfl, rfl, rfl, by decide +kernel, rfl, by decide +kernel, by decide +kernel⟩
theorem r_law_range {X : Cx} {k : Nat} (c : Cd CX0 k wd0 ["_law_low", "_law_high"] (defScope (top 47)) X) (W : NoW wd0) (g : G X.prog X.w X.K X.mg X.base) (hk : 0 ≤ k) (v_law_low v_law_high : D) :
    Run X wd0 (fun _ : Unit => [.no, .no]) (fun e : Empty => e.elim) (fun _ : Unit => []) [.d v_law_low, .d v_law_high] (defBody (top 47)) (o_law_range v_law_low v_law_high) :=
  (run_ifx (eE := fun e => e.elim) (evt_eq c.toCw (Ev.look (ev_var c.toCw (i := 1) (by decide +kernel) (by rfl) (by rfl))) (Ev.look ev_int)) (run_ret (t := ()) ev_str ht0) (run_ret (t := ()) (ev_ifExp (evt_eq c.toCw (Ev.look (ev_var c.toCw (i := 0) (by decide +kernel) (by rfl) (by rfl))) (Ev.look (ev_var c.toCw (i := 1) (by decide +kernel) (by rfl) (by rfl)))) (ev_strI c.toCw g.bt (by decide +kernel) (Ev.look (ev_var c.toCw (i := 1) (by decide +kernel) (by rfl) (by rfl)))) (ev_add (Ev.look (ev_add (Ev.look (ev_strI c.toCw g.bt (by decide +kernel) (Ev.look (ev_var c.toCw (i := 0) (by decide +kernel) (by rfl) (by rfl))))) (Ev.look ev_str))) (Ev.look (ev_strI c.toCw g.bt (by decide +kernel) (Ev.look (ev_var c.toCw (i := 1) (by decide +kernel) (by rfl) (by rfl))))))) ht0))
theorem d_law_range {P : Program} {w : World} {K : PySem.W.Frag} {mg : Str → Option Value} {base : Heap} (g : G P w K mg base) : Df P w K mg base CX0 1 "_law_range" (spP K 2 (l2 m_law_range)) :=
  df_of g.at_law_range s_law_range (m := l2 m_law_range) (o := l2 o_law_range) (fun ds hl => match ds, hl with | [v_law_low, v_law_high], _ => (show m_law_range v_law_low v_law_high = endR0 (o_law_range v_law_low v_law_high) from rfl))
    fun X c e1 e2 e3 e4 e5 e6 => by subst e1 e2 e3 e4 e5; exact fun ds hl => match ds, hl with | [v_law_low, v_law_high], _ => r_law_range c noW0 g (by decide) v_law_low v_law_high
theorem s_law_book_text : FnScope ["_law_draws_here", "_law_book_here", "_law_mixed", "_law_lines", "_law_name", "_law_take_here", "_law_low", "_law_high", "_law_give", "_law_k"] ["_law_draws_here", "_law_book_here", "_law_mixed"] (defScope (top 49)) := ⟨rfl, rfl, rfl, by decide +kernel, rfl, by decide +kernel, by decide +kernel⟩
theorem r_law_book_text {X : Cx} {k : Nat} {dra : Addr × Addr} (c : Cd CX0 k (wdD dra) ["_law_draws_here", "_law_book_here", "_law_mixed", "_law_lines", "_law_name", "_law_take_here", "_law_low", "_law_high", "_law_give", "_law_k"] (defScope (top 49)) X) (W : NoW (wdD dra)) (g : G X.prog X.w X.K X.mg X.base) (hk : 3 ≤ k) (v_law_book_here v_law_mixed : D) :
    Run X (wdD dra) (fun _ : Unit => [.no, .no, .no, .no, .no, .no, .no, .no, .no, .no]) (fun e : Empty => e.elim) (fun _ : Unit => []) [.w, .d v_law_book_here, .d v_law_mixed, .no, .no, .no, .no, .no, .no, .no] (defBody (top 49)) (o_law_book_text v_law_book_here v_law_mixed) :=
  (run_setO c (i := 3) (by decide +kernel) (by rfl) (by rfl) (evl_lst1 (ev_add (Ev.look ev_str) (Ev.look (ev_join (Ev.look ev_str) (Ev.look (ev_ix (Ev.look (ev_var c.toCw (i := 1) (by decide +kernel) (by rfl) (by rfl))) (Ev.look ev_int))))))) (fun v_law_lines => (run_for4 (S1 := List D) (eS1 := fun (s1 : List D) => [.w, .d v_law_book_here, .d v_law_mixed, .l s1, .no, .no, .no, .no, .no, .no]) (s0 := v_law_lines) c (i := 4) (j := 5) (l := 6) (m := 7) (by decide +kernel) (by rfl) (by decide +kernel) (by rfl) (by decide +kernel) (by rfl) (by decide +kernel) (by rfl) (evi_seq (ev_ix (Ev.look (ev_var c.toCw (i := 1) (by decide +kernel) (by rfl) (by rfl))) (Ev.look ev_int))) (le_eq (le_eq (le_eq (le_eq (le_no (le_no (le_no (le_no (le_no (le_no le_nil)))))))))) (fun s1 v_law_name v_law_take_here v_law_low v_law_high => (run_set c (i := 8) (by decide +kernel) (by rfl) (ev_callD3 c.toCw W (d_law_items g) (Nat.le_trans (by decide) hk) (by decide +kernel) (i := 0) (by decide +kernel) (by rfl) (by rfl) (ev_ix (Ev.look (ev_var c.toCw (i := 1) (by decide +kernel) (by rfl) (by rfl))) (Ev.look ev_int)) (EvL.ev (evl_comp c.toCw (i := 9) (by decide +kernel) (by rfl) (by decide +kernel) (by rfl) (by rfl) (EvI.j (evi_r1 c.toCw g.bt (by decide +kernel) (Ev.look (ev_len c.toCw g.bt (by decide +kernel) (Ev.look (ev_var c.toCw (i := 7) (by decide +kernel) (by rfl) (by rfl))))))) (fun v_law_k s0 H0 C cl fp => have c2 := Cw.blk c.toCw cx0F s0 H0 _ C cl fp; have W3 := NoW.calm W; (ev_call2 c2 W3 (d_law_range g) (Nat.le_trans (by decide) hk) (by decide +kernel) (ev_ix (Ev.look (ev_var c2 (i := 6) (by decide +kernel) (by rfl) (by rfl))) (Ev.look (ev_var c2 (i := 9) (by decide +kernel) (by rfl) (by rfl)))) (ev_ix (Ev.look (ev_var c2 (i := 7) (by decide +kernel) (by rfl) (by rfl))) (Ev.look (ev_var c2 (i := 9) (by decide +kernel) (by rfl) (by rfl)))))))) (ev_var c.toCw (i := 2) (by decide +kernel) (by rfl) (by rfl))) (fun v_law_give => (run_app c (i := 3) (by decide +kernel) (by rfl) (by rfl) (ev_add (Ev.look (ev_add (Ev.look (ev_add (Ev.look (ev_add (Ev.look (ev_var c.toCw (i := 4) (by decide +kernel) (by rfl) (by rfl))) (Ev.look ev_str))) (Ev.look (ev_callD3 c.toCw W (d_law_stock_text g) (Nat.le_trans (by decide) hk) (by decide +kernel) (i := 0) (by decide +kernel) (by rfl) (by rfl) (ev_ix (Ev.look (ev_var c.toCw (i := 1) (by decide +kernel) (by rfl) (by rfl))) (Ev.look ev_int)) (ev_var c.toCw (i := 5) (by decide +kernel) (by rfl) (by rfl)) (ev_var c.toCw (i := 2) (by decide +kernel) (by rfl) (by rfl)))))) (Ev.look ev_str))) (Ev.look (ev_var c.toCw (i := 8) (by decide +kernel) (by rfl) (by rfl)))) (fun v_law_lines => (run_nil (le_eq (le_eq (le_eq (le_eq (le_no (le_no (le_no (le_no (le_no (le_no le_nil)))))))))))))))) (fun s1 => (run_ret (t := ()) (ev_join (Ev.look ev_str) (evb_own c.toCw (i := 3) (by decide +kernel) (by rfl) (by rfl))) ht0)))))
theorem d_law_book_text {P : Program} {w : World} {K : PySem.W.Frag} {mg : Str → Option Value} {base : Heap} (g : G P w K mg base) : Df P w K mg base CX0 4 "_law_book_text" (spD K 2 (l2 m_law_book_text)) :=
  df_ofD g.at_law_book_text s_law_book_text (n := 2) rfl (m := l2 m_law_book_text) (o := l2 o_law_book_text) (fun ds hl => match ds, hl with | [v_law_book_here, v_law_mixed], _ => (show m_law_book_text v_law_book_here v_law_mixed = endR0 (o_law_book_text v_law_book_here v_law_mixed) from rfl))
    fun X a c e1 e2 e3 e4 e5 => by subst e1 e2 e3 e4 e5; exact fun ds hl => match ds, hl with | [v_law_book_here, v_law_mixed], _ => r_law_book_text c (noWD a) g (by decide) v_law_book_here v_law_mixed
theorem s_read_items : FnScope ["kinds", "text", "found", "item", "words"] ["kinds", "text"] (defScope (top 23)) := ⟨rfl, rfl, rfl, by decide +kernel, rfl, by decide +kernel, by decide +kernel⟩
theorem r_read_items {X : Cx} {k : Nat} {dr : Drs} (c : Cd CX0 k (wdX dr [] true) ["kinds", "text", "found", "item", "words"] (defScope (top 23)) X) (W : NoW (wdX dr [] true)) (g : G X.prog X.w X.K X.mg X.base) (hk : 0 ≤ k) (v_kinds : D) (v_text : D) :
    Run X (wdX dr [] true) (fun _ : Unit => [.no, .no, .no, .no, .no]) (fun e : Empty => e.elim) (fun _ : Unit => []) [.d v_kinds, .d v_text, .no, .no, .no] (defBody (top 23)) (o_read_items v_kinds v_text) :=
  (run_newK c (i := 2) (by decide +kernel) (by rfl) (by rfl) (run_ifx (eE := fun e => e.elim) (evt_eq c.toCw (Ev.look (ev_var c.toCw (i := 1) (by decide +kernel) (by rfl) (by rfl))) (Ev.look ev_str)) (run_retC c rfl (ct := (.k [])) (i := 2) (by decide +kernel) (by rfl) (by rfl) (by rfl)) (run_for (S1 := List (L2.Key × D)) (eS1 := fun (s1 : List (L2.Key × D)) => [.d v_kinds, .d v_text, .k s1, .no, .no]) (s0 := []) c (i := 3) (by decide +kernel) (by rfl) (evi_seq (EvL.ev (evl_split (Ev.look (ev_var c.toCw (i := 1) (by decide +kernel) (by rfl) (by rfl))) (Ev.look ev_str)))) (le_eq (le_eq (le_eq (le_no (le_no le_nil))))) (fun s1 v_item => (run_set c (i := 4) (by decide +kernel) (by rfl) (EvL.ev (evl_split (Ev.look (ev_var c.toCw (i := 3) (by decide +kernel) (by rfl) (by rfl))) (Ev.look ev_str))) (fun v_words => (run_ifx (eE := fun e => e.elim) (evt_w (evw_or (evt_ne c.toCw (Ev.look (ev_len c.toCw g.bt (by decide +kernel) (Ev.look (ev_var c.toCw (i := 4) (by decide +kernel) (by rfl) (by rfl))))) (Ev.look ev_int)) (evw_or (evt_notin c.toCw (Ev.look (ev_ix (Ev.look (ev_var c.toCw (i := 4) (by decide +kernel) (by rfl) (by rfl))) (Ev.look ev_int))) (Ev.look (ev_var c.toCw (i := 0) (by decide +kernel) (by rfl) (by rfl)))) (evw_or1 (evt_din c.toCw (ct := (.k s1)) (i := 2) (by decide +kernel) (by rfl) (by rfl) (by rfl) (ev_ix (Ev.look (ev_var c.toCw (i := 4) (by decide +kernel) (by rfl) (by rfl))) (Ev.look ev_int))))))) (run_ret ev_non ht0) (run_dputK c (i := 2) (by decide +kernel) (by rfl) (by rfl) (ev_ix (Ev.look (ev_var c.toCw (i := 4) (by decide +kernel) (by rfl) (by rfl))) (Ev.look ev_int)) (ev_ix (Ev.look (ev_var c.toCw (i := 4) (by decide +kernel) (by rfl) (by rfl))) (Ev.look ev_int)) (fun v_found => (run_nil (le_eq (le_eq (le_eq (le_no (le_no le_nil)))))))))))) (fun s1 => (run_retC c rfl (ct := (.k s1)) (i := 2) (by decide +kernel) (by rfl) (by rfl) (by rfl))))))
theorem d_read_items {P : Program} {w : World} {K : PySem.W.Frag} {mg : Str → Option Value} {base : Heap} (g : G P w K mg base) : Df P w K mg base CX0 1 "read_items" (spX K true id (fun _ => []) x_read_items) :=
  df_ofB g.at_read_items s_read_items (own := true) (fun as => by unfold x_read_items; split; exact .inr ⟨rfl, rfl⟩; exact .inl rfl) (fun X dr c e1 e2 e3 e4 e5 e6 as => by subst e1 e2 e3 e4 e5; unfold x_read_items; split; exact .inr ⟨_, rfl, r_read_items c noWX g (by decide) _ _⟩; exact .inl rfl)
theorem s_number_of : FnScope ["word", "most", "number", "char"] ["word", "most"] (defScope (top 22)) := ⟨rfl, rfl, rfl, by decide +kernel, rfl, by decide +kernel, by decide +kernel⟩
theorem r_number_of {X : Cx} {k : Nat} (c : Cd CX0 k wd0 ["word", "most", "number", "char"] (defScope (top 22)) X) (W : NoW wd0) (g : G X.prog X.w X.K X.mg X.base) (hk : 0 ≤ k) (v_word v_most : D) :
    Run X wd0 (fun _ : Unit => [.no, .no, .no, .no]) (fun e : Empty => e.elim) (fun _ : Unit => []) [.d v_word, .d v_most, .no, .no] (defBody (top 22)) (o_number_of v_word v_most) :=
  (run_ifx (eE := fun e => e.elim) (evt_w (evw_or (evt_eq c.toCw (Ev.look (ev_var c.toCw (i := 0) (by decide +kernel) (by rfl) (by rfl))) (Ev.look ev_str)) (evw_or (evt_gt (Ev.look (ev_len c.toCw g.bt (by decide +kernel) (Ev.look (ev_var c.toCw (i := 0) (by decide +kernel) (by rfl) (by rfl))))) (Ev.look ev_int)) (evw_or1 (evt_not (evt_val (Ev.look (ev_all c.toCw g.bt (by decide +kernel) (Ev.look (EvL.ev (evl_comp c.toCw (i := 3) (by decide +kernel) (by rfl) (by decide +kernel) (by rfl) (by rfl) (evj_seq (Ev.look (ev_var c.toCw (i := 0) (by decide +kernel) (by rfl) (by rfl)))) (fun v_char s0 H0 C cl fp => have c1 := Cw.blk c.toCw cx0F s0 H0 _ C cl fp; have W2 := NoW.calm W; (ev_in c1 (Ev.look (ev_var c1 (i := 3) (by decide +kernel) (by rfl) (by rfl))) (Ev.look (ev_con c1 (by decide +kernel) g.con_DIGITS))))))))))))))) (run_ret (t := ()) ev_non ht0) (run_ifx (eE := fun e => e.elim) (evt_w (evw_and (evt_eq c.toCw (Ev.look (ev_ix (Ev.look (ev_var c.toCw (i := 0) (by decide +kernel) (by rfl) (by rfl))) (Ev.look ev_int))) (Ev.look ev_str)) (evw_and1 (evt_gt (Ev.look (ev_len c.toCw g.bt (by decide +kernel) (Ev.look (ev_var c.toCw (i := 0) (by decide +kernel) (by rfl) (by rfl))))) (Ev.look ev_int))))) (run_ret (t := ()) ev_non ht0) (run_set c (i := 2) (by decide +kernel) (by rfl) (ev_intT c.toCw g.bt (by decide +kernel) (Ev.look (ev_var c.toCw (i := 0) (by decide +kernel) (by rfl) (by rfl)))) (fun v_number => (run_ret (t := ()) (ev_ifExp (evt_le (Ev.look (ev_var c.toCw (i := 2) (by decide +kernel) (by rfl) (by rfl))) (Ev.look (ev_var c.toCw (i := 1) (by decide +kernel) (by rfl) (by rfl)))) (ev_var c.toCw (i := 2) (by decide +kernel) (by rfl) (by rfl)) ev_non) ht0)))))
theorem d_number_of {P : Program} {w : World} {K : PySem.W.Frag} {mg : Str → Option Value} {base : Heap} (g : G P w K mg base) : Df P w K mg base CX0 1 "number_of" (spP K 2 (l2 m_number_of)) :=
  df_of g.at_number_of s_number_of (m := l2 m_number_of) (o := l2 o_number_of) (fun ds hl => match ds, hl with | [v_word, v_most], _ => (show m_number_of v_word v_most = endR0 (o_number_of v_word v_most) from rfl))
    fun X c e1 e2 e3 e4 e5 e6 => by subst e1 e2 e3 e4 e5; exact fun ds hl => match ds, hl with | [v_word, v_most], _ => r_number_of c noW0 g (by decide) v_word v_most
theorem s_entries_of : FnScope ["kinds", "text", "most", "endless", "items", "entries", "kind", "word", "number"] ["kinds", "text", "most", "endless"] (defScope (top 24)) := ⟨rfl, rfl, rfl, by decide +kernel, rfl, by decide +kernel, by decide +kernel⟩
theorem r_entries_of {X : Cx} {k : Nat} (c : Cd CX0 k wd0 ["kinds", "text", "most", "endless", "items", "entries", "kind", "word", "number"] (defScope (top 24)) X) (W : NoW wd0) (g : G X.prog X.w X.K X.mg X.base) (hk : 1 ≤ k) (v_kinds v_text v_most v_endless : D) :
    Run X wd0 (fun _ : Unit => [.no, .no, .no, .no, .no, .no, .no, .no, .no]) (fun e : Empty => e.elim) (fun _ : Unit => []) [.d v_kinds, .d v_text, .d v_most, .d v_endless, .no, .no, .no, .no, .no] (defBody (top 24)) (o_entries_of v_kinds v_text v_most v_endless) :=
  (run_callKN c W (d_read_items g) (Nat.le_trans (by decide) hk) (by decide +kernel) (i := 4) (by decide +kernel) (by rfl) (by rfl) (cs_d (ev_var c.toCw (i := 0) (by decide +kernel) (by rfl) (by rfl)) fun x1 => (cs_d (ev_var c.toCw (i := 1) (by decide +kernel) (by rfl) (by rfl)) fun x2 => (cs_nil (m := x_read_items) rfl))) (run_ifx (eE := fun e => e.elim) (evt_is (Ev.look (ev_var c.toCw (i := 4) (by decide +kernel) (by rfl) (by rfl))) (Ev.look ev_non)) (run_ret (t := ()) ev_non ht0) (run_setO c (i := 5) (by decide +kernel) (by rfl) (by rfl) evl_nil (fun v_entries => (run_for (S1 := List D) (eS1 := fun (s5 : List D) => [.d v_kinds, .d v_text, .d v_most, .d v_endless, .d .none, .l s5, .no, .no, .no]) (s0 := v_entries) c (i := 6) (by decide +kernel) (by rfl) (evi_seq (ev_var c.toCw (i := 0) (by decide +kernel) (by rfl) (by rfl))) (le_eq (le_eq (le_eq (le_eq (le_eq (le_eq (le_no (le_no (le_no le_nil))))))))) (fun s5 v_kind => run_bad) (fun s5 => (run_ret (t := ()) (ev_tuple c.toCw g.bt (by decide +kernel) (evb_own c.toCw (i := 5) (by decide +kernel) (by rfl) (by rfl))) ht0)))))) (fun v_items => (run_ifx (eE := fun e => e.elim) (evt_isC c.toCw (ct := (.k v_items)) (i := 4) (by decide +kernel) (by rfl) (by rfl) (by rfl)) (run_ret (t := ()) ev_non ht0) (run_setO c (i := 5) (by decide +kernel) (by rfl) (by rfl) evl_nil (fun v_entries => (run_for (S1 := List D) (eS1 := fun (s3 : List D) => [.d v_kinds, .d v_text, .d v_most, .d v_endless, .k v_items, .l s3, .no, .no, .no]) (s0 := v_entries) c (i := 6) (by decide +kernel) (by rfl) (evi_seq (ev_var c.toCw (i := 0) (by decide +kernel) (by rfl) (by rfl))) (le_eq (le_eq (le_eq (le_eq (le_eq (le_eq (le_no (le_no (le_no le_nil))))))))) (fun s3 v_kind => (run_set c (i := 7) (by decide +kernel) (by rfl) (ev_dget1 c.toCw (ct := (.k v_items)) (i := 4) (by decide +kernel) (by rfl) (by rfl) (by rfl) (by rfl) (ev_var c.toCw (i := 6) (by decide +kernel) (by rfl) (by rfl))) (fun v_word => (run_set c (i := 8) (by decide +kernel) (by rfl) ev_int (fun v_number => (run_if (eS1 := fun (s4 : D) => [.d v_kinds, .d v_text, .d v_most, .d v_endless, .k v_items, .l s3, .d v_kind, .d v_word, .d s4]) (evt_w (evw_and (evt_eq c.toCw (Ev.look (ev_var c.toCw (i := 7) (by decide +kernel) (by rfl) (by rfl))) (Ev.look ev_str)) (evw_and1 (evt_val (Ev.look (ev_var c.toCw (i := 3) (by decide +kernel) (by rfl) (by rfl))))))) (run_set c (i := 8) (by decide +kernel) (by rfl) (ev_neg (Ev.look ev_int)) (fun v_number => (run_nil (le_eq (le_eq (le_eq (le_eq (le_eq (le_eq (le_eq (le_eq (le_eq le_nil)))))))))))) (run_if1 (evt_isNot (Ev.look (ev_var c.toCw (i := 7) (by decide +kernel) (by rfl) (by rfl))) (Ev.look ev_non)) (run_set c (i := 8) (by decide +kernel) (by rfl) (ev_call2 c.toCw W (d_number_of g) (Nat.le_trans (by decide) hk) (by decide +kernel) (ev_var c.toCw (i := 7) (by decide +kernel) (by rfl) (by rfl)) (ev_var c.toCw (i := 2) (by decide +kernel) (by rfl) (by rfl))) (fun v_number => (run_if1 (evt_w (evw_or (evt_is (Ev.look (ev_var c.toCw (i := 8) (by decide +kernel) (by rfl) (by rfl))) (Ev.look ev_non)) (evw_or1 (evt_eq c.toCw (Ev.look (ev_var c.toCw (i := 8) (by decide +kernel) (by rfl) (by rfl))) (Ev.look ev_int))))) (run_ret (t := ()) ev_non ht0) (run_nil (le_eq (le_eq (le_eq (le_eq (le_eq (le_eq (le_eq (le_eq (le_eq le_nil))))))))))))) (run_nil (le_eq (le_eq (le_eq (le_eq (le_eq (le_eq (le_eq (le_eq (le_eq le_nil))))))))))) (fun s4 => (run_app c (i := 5) (by decide +kernel) (by rfl) (by rfl) (ev_var c.toCw (i := 8) (by decide +kernel) (by rfl) (by rfl)) (fun v_entries => (run_nil (le_eq (le_eq (le_eq (le_eq (le_eq (le_eq (le_no (le_no (le_no le_nil))))))))))))))))))) (fun s3 => (run_ret (t := ()) (ev_tuple c.toCw g.bt (by decide +kernel) (evb_own c.toCw (i := 5) (by decide +kernel) (by rfl) (by rfl))) ht0))))))))
theorem d_entries_of {P : Program} {w : World} {K : PySem.W.Frag} {mg : Str → Option Value} {base : Heap} (g : G P w K mg base) : Df P w K mg base CX0 2 "entries_of" (spP K 4 (l4 m_entries_of)) :=
  df_of g.at_entries_of s_entries_of (m := l4 m_entries_of) (o := l4 o_entries_of) (fun ds hl => match ds, hl with | [v_kinds, v_text, v_most, v_endless], _ => (show m_entries_of v_kinds v_text v_most v_endless = endR0 (o_entries_of v_kinds v_text v_most v_endless) from rfl))
    fun X c e1 e2 e3 e4 e5 e6 => by subst e1 e2 e3 e4 e5; exact fun ds hl => match ds, hl with | [v_kinds, v_text, v_most, v_endless], _ => r_entries_of c noW0 g (by decide) v_kinds v_text v_most v_endless
theorem s_read_stock : FnScope ["book", "text", "found"] ["book", "text"] (defScope (top 30)) := ⟨rfl, rfl, rfl, by decide +kernel, rfl, by decide +kernel, by decide +kernel⟩
theorem r_read_stock {X : Cx} {k : Nat} (c : Cd CX0 k wd0 ["book", "text", "found"] (defScope (top 30)) X) (W : NoW wd0) (g : G X.prog X.w X.K X.mg X.base) (hk : 2 ≤ k) (v_book v_text : D) :
    Run X wd0 (fun _ : Unit => [.no, .no, .no]) (fun e : Empty => e.elim) (fun _ : Unit => []) [.d v_book, .d v_text, .no] (defBody (top 30)) (o_read_stock v_book v_text) :=
  (run_set c (i := 2) (by decide +kernel) (by rfl) (ev_call4 c.toCw W (d_entries_of g) (Nat.le_trans (by decide) hk) (by decide +kernel) (ev_ix (Ev.look (ev_var c.toCw (i := 0) (by decide +kernel) (by rfl) (by rfl))) (Ev.look ev_int)) (ev_var c.toCw (i := 1) (by decide +kernel) (by rfl) (by rfl)) (ev_con c.toCw (by decide +kernel) g.con_MOST) ev_bl) (fun v_found => (run_ifx (eE := fun e => e.elim) (evt_is (Ev.look (ev_var c.toCw (i := 2) (by decide +kernel) (by rfl) (by rfl))) (Ev.look ev_non)) run_bad (run_ret (t := ()) (ev_var c.toCw (i := 2) (by decide +kernel) (by rfl) (by rfl)) ht0))))
theorem d_read_stock {P : Program} {w : World} {K : PySem.W.Frag} {mg : Str → Option Value} {base : Heap} (g : G P w K mg base) : Df P w K mg base CX0 3 "read_stock" (spP K 2 (l2 m_read_stock)) :=
  df_of g.at_read_stock s_read_stock (m := l2 m_read_stock) (o := l2 o_read_stock) (fun ds hl => match ds, hl with | [v_book, v_text], _ => (show m_read_stock v_book v_text = endR0 (o_read_stock v_book v_text) from rfl))
    fun X c e1 e2 e3 e4 e5 e6 => by subst e1 e2 e3 e4 e5; exact fun ds hl => match ds, hl with | [v_book, v_text], _ => r_read_stock c noW0 g (by decide) v_book v_text
theorem s_is_name : FnScope ["value", "char"] ["value"] (defScope (top 8)) := ⟨rfl, rfl, rfl, by decide +kernel, rfl, by decide +kernel, by decide +kernel⟩
theorem r_is_name {X : Cx} {k : Nat} (c : Cd CX0 k wd0 ["value", "char"] (defScope (top 8)) X) (W : NoW wd0) (g : G X.prog X.w X.K X.mg X.base) (hk : 0 ≤ k) (v_value : D) :
    Run X wd0 (fun _ : Unit => [.no, .no]) (fun e : Empty => e.elim) (fun _ : Unit => []) [.d v_value, .no] (defBody (top 8)) (o_is_name v_value) :=
  (run_ifx (eE := fun e => e.elim) (evt_w (evw_or (evt_not (evt_val (Ev.look (ev_isi (T := "str") c.toCw (by decide +kernel) g.bt.isinstance bv_isi (by decide +kernel) g.bt.str bv_str (Ev.look (ev_var c.toCw (i := 0) (by decide +kernel) (by rfl) (by rfl))))))) (evw_or (evt_not (evt_chle (Ev.look ev_int) (Ev.look (ev_len c.toCw g.bt (by decide +kernel) (Ev.look (ev_var c.toCw (i := 0) (by decide +kernel) (by rfl) (by rfl))))) (Ev.look ev_int))) (evw_or1 (evt_inT c.toCw (by decide +kernel) g.con_RESERVED (Ev.look (ev_var c.toCw (i := 0) (by decide +kernel) (by rfl) (by rfl)))))))) (run_ret (t := ()) ev_bl ht0) (run_ret (t := ()) (ev_and (ev_in c.toCw (Ev.look (ev_ix (Ev.look (ev_var c.toCw (i := 0) (by decide +kernel) (by rfl) (by rfl))) (Ev.look ev_int))) (Ev.look (ev_con c.toCw (by decide +kernel) g.con_SMALL))) (ev_one (ev_all c.toCw g.bt (by decide +kernel) (Ev.look (EvL.ev (evl_comp c.toCw (i := 1) (by decide +kernel) (by rfl) (by decide +kernel) (by rfl) (by rfl) (evj_seq (Ev.look (ev_var c.toCw (i := 0) (by decide +kernel) (by rfl) (by rfl)))) (fun v_char s0 H0 C cl fp => have c1 := Cw.blk c.toCw cx0F s0 H0 _ C cl fp; have W2 := NoW.calm W; (ev_or (ev_in c1 (Ev.look (ev_var c1 (i := 1) (by decide +kernel) (by rfl) (by rfl))) (Ev.look (ev_con c1 (by decide +kernel) g.con_SMALL))) (ev_one (ev_in c1 (Ev.look (ev_var c1 (i := 1) (by decide +kernel) (by rfl) (by rfl))) (Ev.look (ev_con c1 (by decide +kernel) g.con_DIGITS)))))))))))) ht0))
theorem d_is_name {P : Program} {w : World} {K : PySem.W.Frag} {mg : Str → Option Value} {base : Heap} (g : G P w K mg base) : Df P w K mg base CX0 1 "is_name" (spP K 1 (l1 m_is_name)) :=
  df_of g.at_is_name s_is_name (m := l1 m_is_name) (o := l1 o_is_name) (fun ds hl => match ds, hl with | [v_value], _ => (show m_is_name v_value = endR0 (o_is_name v_value) from rfl))
    fun X c e1 e2 e3 e4 e5 e6 => by subst e1 e2 e3 e4 e5; exact fun ds hl => match ds, hl with | [v_value], _ => r_is_name c noW0 g (by decide) v_value
theorem s_read_kinds : FnScope ["line", "words", "kinds", "kind"] ["line"] (defScope (top 28)) := ⟨rfl, rfl, rfl, by decide +kernel, rfl, by decide +kernel, by decide +kernel⟩
theorem r_read_kinds {X : Cx} {k : Nat} (c : Cd CX0 k wd0 ["line", "words", "kinds", "kind"] (defScope (top 28)) X) (W : NoW wd0) (g : G X.prog X.w X.K X.mg X.base) (hk : 1 ≤ k) (v_line : D) :
    Run X wd0 (fun _ : Unit => [.no, .no, .no, .no]) (fun e : Empty => e.elim) (fun _ : Unit => []) [.d v_line, .no, .no, .no] (defBody (top 28)) (o_read_kinds v_line) :=
  (run_set c (i := 1) (by decide +kernel) (by rfl) (EvL.ev (evl_split (Ev.look (ev_var c.toCw (i := 0) (by decide +kernel) (by rfl) (by rfl))) (Ev.look ev_str))) (fun v_words => (run_set c (i := 2) (by decide +kernel) (by rfl) (ev_tuple c.toCw g.bt (by decide +kernel) (Ev.look (ev_slice (Ev.look (ev_var c.toCw (i := 1) (by decide +kernel) (by rfl) (by rfl))) (evp_some (Ev.look ev_int)) evp_none))) (fun v_kinds => (run_ifx (eE := fun e => e.elim) (evt_w (evw_or (evt_ne c.toCw (Ev.look (ev_ix (Ev.look (ev_var c.toCw (i := 1) (by decide +kernel) (by rfl) (by rfl))) (Ev.look ev_int))) (Ev.look ev_str)) (evw_or (evt_not (evt_chle (Ev.look ev_int) (Ev.look (ev_len c.toCw g.bt (by decide +kernel) (Ev.look (ev_var c.toCw (i := 2) (by decide +kernel) (by rfl) (by rfl))))) (Ev.look (ev_con c.toCw (by decide +kernel) g.con_MAX_KINDS)))) (evw_or1 (evt_not (evt_val (Ev.look (ev_all c.toCw g.bt (by decide +kernel) (Ev.look (EvL.ev (evl_comp c.toCw (i := 3) (by decide +kernel) (by rfl) (by decide +kernel) (by rfl) (by rfl) (evj_seq (Ev.look (ev_var c.toCw (i := 2) (by decide +kernel) (by rfl) (by rfl)))) (fun v_kind s0 H0 C cl fp => have c1 := Cw.blk c.toCw cx0F s0 H0 _ C cl fp; have W2 := NoW.calm W; (ev_call1 c1 W2 (d_is_name g) (Nat.le_trans (by decide) hk) (by decide +kernel) (ev_var c1 (i := 3) (by decide +kernel) (by rfl) (by rfl))))))))))))))) (run_ret (t := ()) ev_non ht0) (run_ret (t := ()) (ev_ifExp (evt_eq c.toCw (Ev.look (ev_lenSet c.toCw g.bt (by decide +kernel) (by decide +kernel) g.bt_set (Ev.look (ev_var c.toCw (i := 2) (by decide +kernel) (by rfl) (by rfl))))) (Ev.look (ev_len c.toCw g.bt (by decide +kernel) (Ev.look (ev_var c.toCw (i := 2) (by decide +kernel) (by rfl) (by rfl)))))) (ev_var c.toCw (i := 2) (by decide +kernel) (by rfl) (by rfl)) ev_non) ht0))))))
theorem d_read_kinds {P : Program} {w : World} {K : PySem.W.Frag} {mg : Str → Option Value} {base : Heap} (g : G P w K mg base) : Df P w K mg base CX0 2 "read_kinds" (spP K 1 (l1 m_read_kinds)) :=
  df_of g.at_read_kinds s_read_kinds (m := l1 m_read_kinds) (o := l1 o_read_kinds) (fun ds hl => match ds, hl with | [v_line], _ => (show m_read_kinds v_line = endR0 (o_read_kinds v_line) from rfl))
    fun X c e1 e2 e3 e4 e5 e6 => by subst e1 e2 e3 e4 e5; exact fun ds hl => match ds, hl with | [v_line], _ => r_read_kinds c noW0 g (by decide) v_line
theorem s_range_of : FnScope ["word", "words", "numbers", "part"] ["word"] (defScope (top 25)) := ⟨rfl, rfl, rfl, by decide +kernel, rfl, by decide +kernel, by decide +kernel⟩
theorem r_range_of {X : Cx} {k : Nat} (c : Cd CX0 k wd0 ["word", "words", "numbers", "part"] (defScope (top 25)) X) (W : NoW wd0) (g : G X.prog X.w X.K X.mg X.base) (hk : 1 ≤ k) (v_word : D) :
    Run X wd0 (fun _ : Unit => [.no, .no, .no, .no]) (fun e : Empty => e.elim) (fun _ : Unit => []) [.d v_word, .no, .no, .no] (defBody (top 25)) (o_range_of v_word) :=
  (run_set c (i := 1) (by decide +kernel) (by rfl) (EvL.ev (evl_split (Ev.look (ev_var c.toCw (i := 0) (by decide +kernel) (by rfl) (by rfl))) (Ev.look ev_str))) (fun v_words => (run_setC c (i := 2) (by decide +kernel) (by rfl) (j := 3) (by decide +kernel) (by rfl) (by decide +kernel) (by rfl) (by rfl) (evj_seq (Ev.look (ev_var c.toCw (i := 1) (by decide +kernel) (by rfl) (by rfl)))) (fun v_part s0 H0 C cl fp => have c1 := Cw.blk c.toCw cx0F s0 H0 _ C cl fp; have W2 := NoW.calm W; (ev_call2 c1 W2 (d_number_of g) (Nat.le_trans (by decide) hk) (by decide +kernel) (ev_var c1 (i := 3) (by decide +kernel) (by rfl) (by rfl)) (ev_con c1 (by decide +kernel) g.con_MAX_ENTRY))) (fun v_numbers => (run_ifx (eE := fun e => e.elim) (evt_w (evw_or (evt_gt (Ev.look (ev_len c.toCw g.bt (by decide +kernel) (Ev.look (ev_var c.toCw (i := 1) (by decide +kernel) (by rfl) (by rfl))))) (Ev.look ev_int)) (evw_or (evt_in c.toCw (Ev.look ev_non) (Ev.look (ev_var c.toCw (i := 2) (by decide +kernel) (by rfl) (by rfl)))) (evw_or1 (evt_eq c.toCw (Ev.look (ev_ix (Ev.look (ev_var c.toCw (i := 2) (by decide +kernel) (by rfl) (by rfl))) (Ev.look (ev_neg (Ev.look ev_int))))) (Ev.look ev_int)))))) (run_ret (t := ()) ev_non ht0) (run_ifx (eE := fun e => e.elim) (evt_w (evw_and (evt_eq c.toCw (Ev.look (ev_len c.toCw g.bt (by decide +kernel) (Ev.look (ev_var c.toCw (i := 1) (by decide +kernel) (by rfl) (by rfl))))) (Ev.look ev_int)) (evw_and1 (evt_ge (Ev.look (ev_ix (Ev.look (ev_var c.toCw (i := 2) (by decide +kernel) (by rfl) (by rfl))) (Ev.look ev_int))) (Ev.look (ev_ix (Ev.look (ev_var c.toCw (i := 2) (by decide +kernel) (by rfl) (by rfl))) (Ev.look ev_int))))))) (run_ret (t := ()) ev_non ht0) (run_ret (t := ()) (ev_tup2 (ev_ix (Ev.look (ev_var c.toCw (i := 2) (by decide +kernel) (by rfl) (by rfl))) (Ev.look ev_int)) (ev_ix (Ev.look (ev_var c.toCw (i := 2) (by decide +kernel) (by rfl) (by rfl))) (Ev.look (ev_neg (Ev.look ev_int))))) ht0)))))))
theorem d_range_of {P : Program} {w : World} {K : PySem.W.Frag} {mg : Str → Option Value} {base : Heap} (g : G P w K mg base) : Df P w K mg base CX0 2 "range_of" (spP K 1 (l1 m_range_of)) :=
  df_of g.at_range_of s_range_of (m := l1 m_range_of) (o := l1 o_range_of) (fun ds hl => match ds, hl with | [v_word], _ => (show m_range_of v_word = endR0 (o_range_of v_word) from rfl))
    fun X c e1 e2 e3 e4 e5 e6 => by subst e1 e2 e3 e4 e5; exact fun ds hl => match ds, hl with | [v_word], _ => r_range_of c noW0 g (by decide) v_word
theorem s_ranges_of : FnScope ["kinds", "text", "items", "least", "most", "kind", "pair"] ["kinds", "text"] (defScope (top 26)) := ⟨rfl, rfl, rfl, by decide +kernel, rfl, by decide +kernel, by decide +kernel⟩
theorem r_ranges_of {X : Cx} {k : Nat} (c : Cd CX0 k wd0 ["kinds", "text", "items", "least", "most", "kind", "pair"] (defScope (top 26)) X) (W : NoW wd0) (g : G X.prog X.w X.K X.mg X.base) (hk : 2 ≤ k) (v_kinds v_text : D) :
    Run X wd0 (fun _ : Unit => [.no, .no, .no, .no, .no, .no, .no]) (fun e : Empty => e.elim) (fun _ : Unit => []) [.d v_kinds, .d v_text, .no, .no, .no, .no, .no] (defBody (top 26)) (o_ranges_of v_kinds v_text) :=
  (run_callKN c W (d_read_items g) (Nat.le_trans (by decide) hk) (by decide +kernel) (i := 2) (by decide +kernel) (by rfl) (by rfl) (cs_d (ev_var c.toCw (i := 0) (by decide +kernel) (by rfl) (by rfl)) fun x1 => (cs_d (ev_var c.toCw (i := 1) (by decide +kernel) (by rfl) (by rfl)) fun x2 => (cs_nil (m := x_read_items) rfl))) (run_ifx (eE := fun e => e.elim) (evt_is (Ev.look (ev_var c.toCw (i := 2) (by decide +kernel) (by rfl) (by rfl))) (Ev.look ev_non)) (run_ret (t := ()) ev_non ht0) (run_setO c (i := 3) (by decide +kernel) (by rfl) (by rfl) evl_nil (fun v_least => (run_setO c (i := 4) (by decide +kernel) (by rfl) (by rfl) evl_nil (fun v_most => (run_for (S1 := (List D) × (List D)) (eS1 := fun (s5 : (List D) × (List D)) => [.d v_kinds, .d v_text, .d .none, .l s5.1, .l s5.2, .no, .no]) (s0 := (v_least, v_most)) c (i := 5) (by decide +kernel) (by rfl) (evi_seq (ev_var c.toCw (i := 0) (by decide +kernel) (by rfl) (by rfl))) (le_eq (le_eq (le_eq (le_eq (le_eq (le_no (le_no le_nil))))))) (fun s5 v_kind => (run_set c (i := 6) (by decide +kernel) (by rfl) (ev_tup2 ev_int ev_int) (fun v_pair => (run_if (eS1 := fun (s6 : D) => [.d v_kinds, .d v_text, .d .none, .l s5.1, .l s5.2, .d v_kind, .d s6]) (evt_in c.toCw (Ev.look (ev_var c.toCw (i := 5) (by decide +kernel) (by rfl) (by rfl))) (Ev.look (ev_var c.toCw (i := 2) (by decide +kernel) (by rfl) (by rfl)))) (run_set c (i := 6) (by decide +kernel) (by rfl) (ev_call1 c.toCw W (d_range_of g) (Nat.le_trans (by decide) hk) (by decide +kernel) (ev_ix (Ev.look (ev_var c.toCw (i := 2) (by decide +kernel) (by rfl) (by rfl))) (Ev.look (ev_var c.toCw (i := 5) (by decide +kernel) (by rfl) (by rfl))))) (fun v_pair => (run_if1 (evt_is (Ev.look (ev_var c.toCw (i := 6) (by decide +kernel) (by rfl) (by rfl))) (Ev.look ev_non)) (run_ret (t := ()) ev_non ht0) (run_nil (le_eq (le_eq (le_eq (le_eq (le_eq (le_eq (le_eq le_nil))))))))))) (run_nil (le_eq (le_eq (le_eq (le_eq (le_eq (le_eq (le_eq le_nil)))))))) (fun s6 => (run_app c (i := 3) (by decide +kernel) (by rfl) (by rfl) (ev_ix (Ev.look (ev_var c.toCw (i := 6) (by decide +kernel) (by rfl) (by rfl))) (Ev.look ev_int)) (fun v_least => (run_app c (i := 4) (by decide +kernel) (by rfl) (by rfl) (ev_ix (Ev.look (ev_var c.toCw (i := 6) (by decide +kernel) (by rfl) (by rfl))) (Ev.look ev_int)) (fun v_most => (run_nil (le_eq (le_eq (le_eq (le_eq (le_eq (le_no (le_no le_nil))))))))))))))))) (fun s5 => (run_ret (t := ()) (ev_tup2 (ev_tuple c.toCw g.bt (by decide +kernel) (evb_own c.toCw (i := 3) (by decide +kernel) (by rfl) (by rfl))) (ev_tuple c.toCw g.bt (by decide +kernel) (evb_own c.toCw (i := 4) (by decide +kernel) (by rfl) (by rfl)))) ht0)))))))) (fun v_items => (run_ifx (eE := fun e => e.elim) (evt_isC c.toCw (ct := (.k v_items)) (i := 2) (by decide +kernel) (by rfl) (by rfl) (by rfl)) (run_ret (t := ()) ev_non ht0) (run_setO c (i := 3) (by decide +kernel) (by rfl) (by rfl) evl_nil (fun v_least => (run_setO c (i := 4) (by decide +kernel) (by rfl) (by rfl) evl_nil (fun v_most => (run_for (S1 := (List D) × (List D)) (eS1 := fun (s3 : (List D) × (List D)) => [.d v_kinds, .d v_text, .k v_items, .l s3.1, .l s3.2, .no, .no]) (s0 := (v_least, v_most)) c (i := 5) (by decide +kernel) (by rfl) (evi_seq (ev_var c.toCw (i := 0) (by decide +kernel) (by rfl) (by rfl))) (le_eq (le_eq (le_eq (le_eq (le_eq (le_no (le_no le_nil))))))) (fun s3 v_kind => (run_set c (i := 6) (by decide +kernel) (by rfl) (ev_tup2 ev_int ev_int) (fun v_pair => (run_if (eS1 := fun (s4 : D) => [.d v_kinds, .d v_text, .k v_items, .l s3.1, .l s3.2, .d v_kind, .d s4]) (evt_din c.toCw (ct := (.k v_items)) (i := 2) (by decide +kernel) (by rfl) (by rfl) (by rfl) (ev_var c.toCw (i := 5) (by decide +kernel) (by rfl) (by rfl))) (run_set c (i := 6) (by decide +kernel) (by rfl) (ev_call1 c.toCw W (d_range_of g) (Nat.le_trans (by decide) hk) (by decide +kernel) (ev_dget c.toCw (ct := (.k v_items)) (i := 2) (by decide +kernel) (by rfl) (by rfl) (by rfl) (ev_var c.toCw (i := 5) (by decide +kernel) (by rfl) (by rfl)))) (fun v_pair => (run_if1 (evt_is (Ev.look (ev_var c.toCw (i := 6) (by decide +kernel) (by rfl) (by rfl))) (Ev.look ev_non)) (run_ret (t := ()) ev_non ht0) (run_nil (le_eq (le_eq (le_eq (le_eq (le_eq (le_eq (le_eq le_nil))))))))))) (run_nil (le_eq (le_eq (le_eq (le_eq (le_eq (le_eq (le_eq le_nil)))))))) (fun s4 => (run_app c (i := 3) (by decide +kernel) (by rfl) (by rfl) (ev_ix (Ev.look (ev_var c.toCw (i := 6) (by decide +kernel) (by rfl) (by rfl))) (Ev.look ev_int)) (fun v_least => (run_app c (i := 4) (by decide +kernel) (by rfl) (by rfl) (ev_ix (Ev.look (ev_var c.toCw (i := 6) (by decide +kernel) (by rfl) (by rfl))) (Ev.look ev_int)) (fun v_most => (run_nil (le_eq (le_eq (le_eq (le_eq (le_eq (le_no (le_no le_nil))))))))))))))))) (fun s3 => (run_ret (t := ()) (ev_tup2 (ev_tuple c.toCw g.bt (by decide +kernel) (evb_own c.toCw (i := 3) (by decide +kernel) (by rfl) (by rfl))) (ev_tuple c.toCw g.bt (by decide +kernel) (evb_own c.toCw (i := 4) (by decide +kernel) (by rfl) (by rfl)))) ht0))))))))))
theorem d_ranges_of {P : Program} {w : World} {K : PySem.W.Frag} {mg : Str → Option Value} {base : Heap} (g : G P w K mg base) : Df P w K mg base CX0 3 "ranges_of" (spP K 2 (l2 m_ranges_of)) :=
  df_of g.at_ranges_of s_ranges_of (m := l2 m_ranges_of) (o := l2 o_ranges_of) (fun ds hl => match ds, hl with | [v_kinds, v_text], _ => (show m_ranges_of v_kinds v_text = endR0 (o_ranges_of v_kinds v_text) from rfl))
    fun X c e1 e2 e3 e4 e5 e6 => by subst e1 e2 e3 e4 e5; exact fun ds hl => match ds, hl with | [v_kinds, v_text], _ => r_ranges_of c noW0 g (by decide) v_kinds v_text
theorem s_read_move : FnScope ["kinds", "line", "parts", "sides", "take", "pair"] ["kinds", "line"] (defScope (top 27)) := ⟨rfl, rfl, rfl, by decide +kernel, rfl, by decide +kernel, by decide +kernel⟩
theorem r_read_move {X : Cx} {k : Nat} (c : Cd CX0 k wd0 ["kinds", "line", "parts", "sides", "take", "pair"] (defScope (top 27)) X) (W : NoW wd0) (g : G X.prog X.w X.K X.mg X.base) (hk : 3 ≤ k) (v_kinds v_line : D) :
    Run X wd0 (fun _ : Unit => [.no, .no, .no, .no, .no, .no]) (fun e : Empty => e.elim) (fun _ : Unit => []) [.d v_kinds, .d v_line, .no, .no, .no, .no] (defBody (top 27)) (o_read_move v_kinds v_line) :=
  (run_set c (i := 2) (by decide +kernel) (by rfl) (EvL.ev (evl_split (Ev.look (ev_var c.toCw (i := 1) (by decide +kernel) (by rfl) (by rfl))) (Ev.look ev_str))) (fun v_parts => (run_ifx (eE := fun e => e.elim) (evt_w (evw_or (evt_ne c.toCw (Ev.look (ev_len c.toCw g.bt (by decide +kernel) (Ev.look (ev_var c.toCw (i := 2) (by decide +kernel) (by rfl) (by rfl))))) (Ev.look ev_int)) (evw_or1 (evt_not (evt_val (Ev.look (ev_call1 c.toCw W (d_is_name g) (Nat.le_trans (by decide) hk) (by decide +kernel) (ev_ix (Ev.look (ev_var c.toCw (i := 2) (by decide +kernel) (by rfl) (by rfl))) (Ev.look ev_int))))))))) (run_ret (t := ()) ev_non ht0) (run_set c (i := 3) (by decide +kernel) (by rfl) (EvL.ev (evl_split (Ev.look (ev_ix (Ev.look (ev_var c.toCw (i := 2) (by decide +kernel) (by rfl) (by rfl))) (Ev.look ev_int))) (Ev.look ev_str))) (fun v_sides => (run_ifx (eE := fun e => e.elim) (evt_ne c.toCw (Ev.look (ev_len c.toCw g.bt (by decide +kernel) (Ev.look (ev_var c.toCw (i := 3) (by decide +kernel) (by rfl) (by rfl))))) (Ev.look ev_int)) (run_ret (t := ()) ev_non ht0) (run_set c (i := 4) (by decide +kernel) (by rfl) (ev_call4 c.toCw W (d_entries_of g) (Nat.le_trans (by decide) hk) (by decide +kernel) (ev_var c.toCw (i := 0) (by decide +kernel) (by rfl) (by rfl)) (ev_ix (Ev.look (ev_var c.toCw (i := 3) (by decide +kernel) (by rfl) (by rfl))) (Ev.look ev_int)) (ev_con c.toCw (by decide +kernel) g.con_MAX_ENTRY) ev_bl) (fun v_take => (run_set c (i := 5) (by decide +kernel) (by rfl) (ev_call2 c.toCw W (d_ranges_of g) (Nat.le_trans (by decide) hk) (by decide +kernel) (ev_var c.toCw (i := 0) (by decide +kernel) (by rfl) (by rfl)) (ev_ix (Ev.look (ev_var c.toCw (i := 3) (by decide +kernel) (by rfl) (by rfl))) (Ev.look ev_int))) (fun v_pair => (run_ifx (eE := fun e => e.elim) (evt_w (evw_or (evt_is (Ev.look (ev_var c.toCw (i := 4) (by decide +kernel) (by rfl) (by rfl))) (Ev.look ev_non)) (evw_or1 (evt_is (Ev.look (ev_var c.toCw (i := 5) (by decide +kernel) (by rfl) (by rfl))) (Ev.look ev_non))))) (run_ret (t := ()) ev_non ht0) (run_ret (t := ()) (ev_add (Ev.look (ev_tup2 (ev_ix (Ev.look (ev_var c.toCw (i := 2) (by decide +kernel) (by rfl) (by rfl))) (Ev.look ev_int)) (ev_var c.toCw (i := 4) (by decide +kernel) (by rfl) (by rfl)))) (Ev.look (ev_var c.toCw (i := 5) (by decide +kernel) (by rfl) (by rfl)))) ht0))))))))))))
theorem d_read_move {P : Program} {w : World} {K : PySem.W.Frag} {mg : Str → Option Value} {base : Heap} (g : G P w K mg base) : Df P w K mg base CX0 4 "read_move" (spP K 2 (l2 m_read_move)) :=
  df_of g.at_read_move s_read_move (m := l2 m_read_move) (o := l2 o_read_move) (fun ds hl => match ds, hl with | [v_kinds, v_line], _ => (show m_read_move v_kinds v_line = endR0 (o_read_move v_kinds v_line) from rfl))
    fun X c e1 e2 e3 e4 e5 e6 => by subst e1 e2 e3 e4 e5; exact fun ds hl => match ds, hl with | [v_kinds, v_line], _ => r_read_move c noW0 g (by decide) v_kinds v_line
theorem s_read_book : FnScope ["text", "lines", "kinds", "moves", "names", "k", "move"] ["text"] (defScope (top 29)) := ⟨rfl, rfl, rfl, by decide +kernel, rfl, by decide +kernel, by decide +kernel⟩
theorem r_read_book {X : Cx} {k : Nat} (c : Cd CX0 k wd0 ["text", "lines", "kinds", "moves", "names", "k", "move"] (defScope (top 29)) X) (W : NoW wd0) (g : G X.prog X.w X.K X.mg X.base) (hk : 4 ≤ k) (v_text : D) :
    Run X wd0 (fun _ : Unit => [.no, .no, .no, .no, .no, .no, .no]) (fun e : Empty => e.elim) (fun _ : Unit => []) [.d v_text, .no, .no, .no, .no, .no, .no] (defBody (top 29)) (o_read_book v_text) :=
  (run_set c (i := 1) (by decide +kernel) (by rfl) (EvL.ev (evl_split (Ev.look (ev_var c.toCw (i := 0) (by decide +kernel) (by rfl) (by rfl))) (Ev.look ev_str))) (fun v_lines => (run_set c (i := 2) (by decide +kernel) (by rfl) (ev_call1 c.toCw W (d_read_kinds g) (Nat.le_trans (by decide) hk) (by decide +kernel) (ev_ix (Ev.look (ev_var c.toCw (i := 1) (by decide +kernel) (by rfl) (by rfl))) (Ev.look ev_int))) (fun v_kinds => (run_ifx (eE := fun e => e.elim) (evt_is (Ev.look (ev_var c.toCw (i := 2) (by decide +kernel) (by rfl) (by rfl))) (Ev.look ev_non)) run_bad (run_setO c (i := 3) (by decide +kernel) (by rfl) (by rfl) evl_nil (fun v_moves => (run_setO c (i := 4) (by decide +kernel) (by rfl) (by rfl) (evl_list c.toCw g.bt (by decide +kernel) (Ev.look (ev_var c.toCw (i := 2) (by decide +kernel) (by rfl) (by rfl)))) (fun v_names => (run_for (S1 := (List D) × (List D)) (eS1 := fun (s1 : (List D) × (List D)) => [.d v_text, .d v_lines, .d v_kinds, .l s1.1, .l s1.2, .no, .no]) (s0 := (v_moves, v_names)) c (i := 5) (by decide +kernel) (by rfl) (evi_r2 c.toCw g.bt (by decide +kernel) (Ev.look ev_int) (Ev.look (ev_len c.toCw g.bt (by decide +kernel) (Ev.look (ev_var c.toCw (i := 1) (by decide +kernel) (by rfl) (by rfl)))))) (le_eq (le_eq (le_eq (le_eq (le_eq (le_no (le_no le_nil))))))) (fun s1 v_k => (run_set c (i := 6) (by decide +kernel) (by rfl) (ev_call2 c.toCw W (d_read_move g) (Nat.le_trans (by decide) hk) (by decide +kernel) (ev_var c.toCw (i := 2) (by decide +kernel) (by rfl) (by rfl)) (ev_ix (Ev.look (ev_var c.toCw (i := 1) (by decide +kernel) (by rfl) (by rfl))) (Ev.look (ev_var c.toCw (i := 5) (by decide +kernel) (by rfl) (by rfl))))) (fun v_move => (run_ifx (eE := fun e => e.elim) (evt_w (evw_or (evt_is (Ev.look (ev_var c.toCw (i := 6) (by decide +kernel) (by rfl) (by rfl))) (Ev.look ev_non)) (evw_or (evt_in c.toCw (Ev.look (ev_ix (Ev.look (ev_var c.toCw (i := 6) (by decide +kernel) (by rfl) (by rfl))) (Ev.look ev_int))) (evb_own c.toCw (i := 4) (by decide +kernel) (by rfl) (by rfl))) (evw_or1 (evt_eq c.toCw (Ev.look (ev_len c.toCw g.bt (by decide +kernel) (evb_own c.toCw (i := 3) (by decide +kernel) (by rfl) (by rfl)))) (Ev.look (ev_con c.toCw (by decide +kernel) g.con_MAX_MOVES))))))) run_bad (run_app c (i := 3) (by decide +kernel) (by rfl) (by rfl) (ev_var c.toCw (i := 6) (by decide +kernel) (by rfl) (by rfl)) (fun v_moves => (run_app c (i := 4) (by decide +kernel) (by rfl) (by rfl) (ev_ix (Ev.look (ev_var c.toCw (i := 6) (by decide +kernel) (by rfl) (by rfl))) (Ev.look ev_int)) (fun v_names => (run_nil (le_eq (le_eq (le_eq (le_eq (le_eq (le_no (le_no le_nil)))))))))))))))) (fun s1 => (run_ret (t := ()) (ev_tup2 (ev_var c.toCw (i := 2) (by decide +kernel) (by rfl) (by rfl)) (ev_tuple c.toCw g.bt (by decide +kernel) (evb_own c.toCw (i := 3) (by decide +kernel) (by rfl) (by rfl)))) ht0))))))))))))
theorem d_read_book {P : Program} {w : World} {K : PySem.W.Frag} {mg : Str → Option Value} {base : Heap} (g : G P w K mg base) : Df P w K mg base CX0 5 "read_book" (spP K 1 (l1 m_read_book)) :=
  df_of g.at_read_book s_read_book (m := l1 m_read_book) (o := l1 o_read_book) (fun ds hl => match ds, hl with | [v_text], _ => (show m_read_book v_text = endR0 (o_read_book v_text) from rfl))
    fun X c e1 e2 e3 e4 e5 e6 => by subst e1 e2 e3 e4 e5; exact fun ds hl => match ds, hl with | [v_text], _ => r_read_book c noW0 g (by decide) v_text
theorem s_read_extended : FnScope ["book", "text", "found"] ["book", "text"] (defScope (top 31)) := ⟨rfl, rfl, rfl, by decide +kernel, rfl, by decide +kernel, by decide +kernel⟩
theorem r_read_extended {X : Cx} {k : Nat} (c : Cd CX0 k wd0 ["book", "text", "found"] (defScope (top 31)) X) (W : NoW wd0) (g : G X.prog X.w X.K X.mg X.base) (hk : 2 ≤ k) (v_book v_text : D) :
    Run X wd0 (fun _ : Unit => [.no, .no, .no]) (fun e : Empty => e.elim) (fun _ : Unit => []) [.d v_book, .d v_text, .no] (defBody (top 31)) (o_read_extended v_book v_text) :=
  (run_set c (i := 2) (by decide +kernel) (by rfl) (ev_call4 c.toCw W (d_entries_of g) (Nat.le_trans (by decide) hk) (by decide +kernel) (ev_ix (Ev.look (ev_var c.toCw (i := 0) (by decide +kernel) (by rfl) (by rfl))) (Ev.look ev_int)) (ev_var c.toCw (i := 1) (by decide +kernel) (by rfl) (by rfl)) (ev_con c.toCw (by decide +kernel) g.con_MOST) ev_bl) (fun v_found => (run_ifx (eE := fun e => e.elim) (evt_is (Ev.look (ev_var c.toCw (i := 2) (by decide +kernel) (by rfl) (by rfl))) (Ev.look ev_non)) run_bad (run_ret (t := ()) (ev_var c.toCw (i := 2) (by decide +kernel) (by rfl) (by rfl)) ht0))))
theorem d_read_extended {P : Program} {w : World} {K : PySem.W.Frag} {mg : Str → Option Value} {base : Heap} (g : G P w K mg base) : Df P w K mg base CX0 3 "read_extended" (spP K 2 (l2 m_read_extended)) :=
  df_of g.at_read_extended s_read_extended (m := l2 m_read_extended) (o := l2 o_read_extended) (fun ds hl => match ds, hl with | [v_book, v_text], _ => (show m_read_extended v_book v_text = endR0 (o_read_extended v_book v_text) from rfl))
    fun X c e1 e2 e3 e4 e5 e6 => by subst e1 e2 e3 e4 e5; exact fun ds hl => match ds, hl with | [v_book, v_text], _ => r_read_extended c noW0 g (by decide) v_book v_text
theorem s_print_run : FnScope ["book", "run", "words", "step"] ["book", "run"] (defScope (top 21)) := ⟨rfl, rfl, rfl, by decide +kernel, rfl, by decide +kernel, by decide +kernel⟩
theorem r_print_run {X : Cx} {k : Nat} (c : Cd CX0 k wd0 ["book", "run", "words", "step"] (defScope (top 21)) X) (W : NoW wd0) (g : G X.prog X.w X.K X.mg X.base) (hk : 0 ≤ k) {j : Nat} {rec : D → D → R D} (hrec : Df X.prog X.w X.K X.mg X.base CX0 j "print_run" (spP X.K 2 (l2 rec))) (hj : j + 0 ≤ k) (hb : 1 ≤ j) (v_book v_run : D) :
    Run X wd0 (fun _ : Unit => [.no, .no, .no, .no]) (fun e : Empty => e.elim) (fun _ : Unit => []) [.d v_book, .d v_run, .no, .no] (defBody (top 21)) (o_print_run rec v_book v_run) :=
  (run_ifx (eE := fun e => e.elim) (evt_eq c.toCw (Ev.look (ev_var c.toCw (i := 1) (by decide +kernel) (by rfl) (by rfl))) (Ev.look ev_tup0)) (run_ret (t := ()) ev_str ht0) (run_setO c (i := 2) (by decide +kernel) (by rfl) (by rfl) evl_nil (fun v_words => (run_for (S1 := List D) (eS1 := fun (s1 : List D) => [.d v_book, .d v_run, .l s1, .no]) (s0 := v_words) c (i := 3) (by decide +kernel) (by rfl) (evi_seq (ev_var c.toCw (i := 1) (by decide +kernel) (by rfl) (by rfl))) (le_eq (le_eq (le_eq (le_no le_nil)))) (fun s1 v_step => (run_if1 (evt_eq c.toCw (Ev.look (ev_ix (Ev.look (ev_var c.toCw (i := 3) (by decide +kernel) (by rfl) (by rfl))) (Ev.look ev_int))) (Ev.look ev_str)) (run_app c (i := 2) (by decide +kernel) (by rfl) (by rfl) (ev_ix (Ev.look (ev_ix (Ev.look (ev_ix (Ev.look (ev_var c.toCw (i := 0) (by decide +kernel) (by rfl) (by rfl))) (Ev.look ev_int))) (Ev.look (ev_ix (Ev.look (ev_var c.toCw (i := 3) (by decide +kernel) (by rfl) (by rfl))) (Ev.look ev_int))))) (Ev.look ev_int)) (fun v_words => (run_nil (le_eq (le_eq (le_eq (le_no le_nil))))))) (run_app c (i := 2) (by decide +kernel) (by rfl) (by rfl) (ev_add (Ev.look (ev_add (Ev.look (ev_add (Ev.look (ev_strI c.toCw g.bt (by decide +kernel) (Ev.look (ev_ix (Ev.look (ev_var c.toCw (i := 3) (by decide +kernel) (by rfl) (by rfl))) (Ev.look ev_int))))) (Ev.look ev_str))) (Ev.look (ev_call2 c.toCw W hrec (by omega) (by decide +kernel) (ev_var c.toCw (i := 0) (by decide +kernel) (by rfl) (by rfl)) (ev_ix (Ev.look (ev_var c.toCw (i := 3) (by decide +kernel) (by rfl) (by rfl))) (Ev.look ev_int)))))) (Ev.look ev_str)) (fun v_words => (run_nil (le_eq (le_eq (le_eq (le_no le_nil))))))))) (fun s1 => (run_ret (t := ()) (ev_join (Ev.look ev_str) (evb_own c.toCw (i := 2) (by decide +kernel) (by rfl) (by rfl))) ht0))))))
theorem d_print_run {P : Program} {w : World} {K : PySem.W.Frag} {mg : Str → Option Value} {base : Heap} (g : G P w K mg base) : ∀ n : Nat, Df P w K mg base CX0 (1 + 1 * n) "print_run" (spP K 2 (l2 (m_print_run n)))
  | 0 => df_bad g.at_print_run fun ds => (by unfold l2; split <;> rfl)
  | n + 1 => df_of (k := 1 + 1 * n + 0) g.at_print_run s_print_run (m := l2 (m_print_run (n + 1))) (o := l2 (o_print_run (m_print_run n))) (fun ds hl => match ds, hl with | [v_book, v_run], _ => rfl)
      fun X c e1 e2 e3 e4 e5 e6 => by subst e1 e2 e3 e4 e5; exact fun ds hl => match ds, hl with | [v_book, v_run], _ => r_print_run (k := 1 + 1 * n + 0) c noW0 g (by omega) (d_print_run g n) (by omega) (by omega) v_book v_run
theorem s_law_run_text : FnScope ["_law_book_here", "_law_run_here", "_law_words", "_law_step"] ["_law_book_here", "_law_run_here"] (defScope (top 50)) := ⟨rfl, rfl, rfl, by decide +kernel, rfl, by decide +kernel, by decide +kernel⟩
theorem r_law_run_text {X : Cx} {k : Nat} (c : Cd CX0 k wd0 ["_law_book_here", "_law_run_here", "_law_words", "_law_step"] (defScope (top 50)) X) (W : NoW wd0) (g : G X.prog X.w X.K X.mg X.base) (hk : 0 ≤ k) {j : Nat} {rec : D → D → R D} (hrec : Df X.prog X.w X.K X.mg X.base CX0 j "_law_run_text" (spP X.K 2 (l2 rec))) (hj : j + 0 ≤ k) (hb : 1 ≤ j) (v_law_book_here v_law_run_here : D) :
    Run X wd0 (fun _ : Unit => [.no, .no, .no, .no]) (fun e : Empty => e.elim) (fun _ : Unit => []) [.d v_law_book_here, .d v_law_run_here, .no, .no] (defBody (top 50)) (o_law_run_text rec v_law_book_here v_law_run_here) :=
  (run_setO c (i := 2) (by decide +kernel) (by rfl) (by rfl) evl_nil (fun v_law_words => (run_for (S1 := List D) (eS1 := fun (s1 : List D) => [.d v_law_book_here, .d v_law_run_here, .l s1, .no]) (s0 := v_law_words) c (i := 3) (by decide +kernel) (by rfl) (evi_seq (ev_var c.toCw (i := 1) (by decide +kernel) (by rfl) (by rfl))) (le_eq (le_eq (le_eq (le_no le_nil)))) (fun s1 v_law_step => (run_if1 (evt_eq c.toCw (Ev.look (ev_ix (Ev.look (ev_var c.toCw (i := 3) (by decide +kernel) (by rfl) (by rfl))) (Ev.look ev_int))) (Ev.look ev_str)) (run_app c (i := 2) (by decide +kernel) (by rfl) (by rfl) (ev_ix (Ev.look (ev_ix (Ev.look (ev_ix (Ev.look (ev_var c.toCw (i := 0) (by decide +kernel) (by rfl) (by rfl))) (Ev.look ev_int))) (Ev.look (ev_ix (Ev.look (ev_var c.toCw (i := 3) (by decide +kernel) (by rfl) (by rfl))) (Ev.look ev_int))))) (Ev.look ev_int)) (fun v_law_words => (run_nil (le_eq (le_eq (le_eq (le_no le_nil))))))) (run_app c (i := 2) (by decide +kernel) (by rfl) (by rfl) (ev_add (Ev.look (ev_add (Ev.look (ev_add (Ev.look (ev_strI c.toCw g.bt (by decide +kernel) (Ev.look (ev_ix (Ev.look (ev_var c.toCw (i := 3) (by decide +kernel) (by rfl) (by rfl))) (Ev.look ev_int))))) (Ev.look ev_str))) (Ev.look (ev_call2 c.toCw W hrec (by omega) (by decide +kernel) (ev_var c.toCw (i := 0) (by decide +kernel) (by rfl) (by rfl)) (ev_ix (Ev.look (ev_var c.toCw (i := 3) (by decide +kernel) (by rfl) (by rfl))) (Ev.look ev_int)))))) (Ev.look ev_str)) (fun v_law_words => (run_nil (le_eq (le_eq (le_eq (le_no le_nil))))))))) (fun s1 => (run_ret (t := ()) (ev_ifExp (evt_eq c.toCw (evb_own c.toCw (i := 2) (by decide +kernel) (by rfl) (by rfl)) (Ev.look (EvL.ev evl_nil))) ev_str (ev_join (Ev.look ev_str) (evb_own c.toCw (i := 2) (by decide +kernel) (by rfl) (by rfl)))) ht0)))))
theorem d_law_run_text {P : Program} {w : World} {K : PySem.W.Frag} {mg : Str → Option Value} {base : Heap} (g : G P w K mg base) : ∀ n : Nat, Df P w K mg base CX0 (1 + 1 * n) "_law_run_text" (spP K 2 (l2 (m_law_run_text n)))
  | 0 => df_bad g.at_law_run_text fun ds => (by unfold l2; split <;> rfl)
  | n + 1 => df_of (k := 1 + 1 * n + 0) g.at_law_run_text s_law_run_text (m := l2 (m_law_run_text (n + 1))) (o := l2 (o_law_run_text (m_law_run_text n))) (fun ds hl => match ds, hl with | [v_law_book_here, v_law_run_here], _ => rfl)
      fun X c e1 e2 e3 e4 e5 e6 => by subst e1 e2 e3 e4 e5; exact fun ds hl => match ds, hl with | [v_law_book_here, v_law_run_here], _ => r_law_run_text (k := 1 + 1 * n + 0) c noW0 g (by omega) (d_law_run_text g n) (by omega) (by omega) v_law_book_here v_law_run_here
theorem s_split_steps : FnScope ["text", "words", "level", "begin", "k"] ["text"] (defScope (top 32)) := ⟨rfl, rfl, rfl, by decide +kernel, rfl, by decide +kernel, by decide +kernel⟩
theorem r_split_steps {X : Cx} {k : Nat} (c : Cd CX0 k wd0 ["text", "words", "level", "begin", "k"] (defScope (top 32)) X) (W : NoW wd0) (g : G X.prog X.w X.K X.mg X.base) (hk : 0 ≤ k) (v_text : D) :
    Run X wd0 (fun _ : Unit => [.no, .no, .no, .no, .no]) (fun e : Empty => e.elim) (fun _ : Unit => []) [.d v_text, .no, .no, .no, .no] (defBody (top 32)) (o_split_steps v_text) :=
  (run_setO c (i := 1) (by decide +kernel) (by rfl) (by rfl) evl_nil (fun v_words => (run_set c (i := 2) (by decide +kernel) (by rfl) ev_int (fun v_level => (run_set c (i := 3) (by decide +kernel) (by rfl) ev_int (fun v_begin => (run_for (S1 := (List D) × D × D) (eS1 := fun (s1 : (List D) × D × D) => [.d v_text, .l s1.1, .d s1.2.1, .d s1.2.2, .no]) (s0 := (v_words, v_level, v_begin)) c (i := 4) (by decide +kernel) (by rfl) (evi_r1 c.toCw g.bt (by decide +kernel) (Ev.look (ev_len c.toCw g.bt (by decide +kernel) (Ev.look (ev_var c.toCw (i := 0) (by decide +kernel) (by rfl) (by rfl)))))) (le_eq (le_eq (le_eq (le_eq (le_no le_nil))))) (fun s1 v_k => (run_if1 (evt_eq c.toCw (Ev.look (ev_ix (Ev.look (ev_var c.toCw (i := 0) (by decide +kernel) (by rfl) (by rfl))) (Ev.look (ev_var c.toCw (i := 4) (by decide +kernel) (by rfl) (by rfl))))) (Ev.look ev_str)) (run_iadd c (i := 2) (by decide +kernel) (by rfl) (by rfl) ev_int (fun v_level => (run_nil (le_eq (le_eq (le_eq (le_eq (le_no le_nil)))))))) (run_if1 (evt_eq c.toCw (Ev.look (ev_ix (Ev.look (ev_var c.toCw (i := 0) (by decide +kernel) (by rfl) (by rfl))) (Ev.look (ev_var c.toCw (i := 4) (by decide +kernel) (by rfl) (by rfl))))) (Ev.look ev_str)) (run_isub c (i := 2) (by decide +kernel) (by rfl) (by rfl) ev_int (fun v_level => (run_nil (le_eq (le_eq (le_eq (le_eq (le_no le_nil)))))))) (run_if1 (evt_w (evw_and (evt_eq c.toCw (Ev.look (ev_ix (Ev.look (ev_var c.toCw (i := 0) (by decide +kernel) (by rfl) (by rfl))) (Ev.look (ev_var c.toCw (i := 4) (by decide +kernel) (by rfl) (by rfl))))) (Ev.look ev_str)) (evw_and (evt_eq c.toCw (Ev.look (ev_var c.toCw (i := 2) (by decide +kernel) (by rfl) (by rfl))) (Ev.look ev_int)) (evw_and1 (evt_eq c.toCw (Ev.look (ev_slice (Ev.look (ev_var c.toCw (i := 0) (by decide +kernel) (by rfl) (by rfl))) (evp_some (Ev.look (ev_var c.toCw (i := 4) (by decide +kernel) (by rfl) (by rfl)))) (evp_some (Ev.look (ev_add (Ev.look (ev_var c.toCw (i := 4) (by decide +kernel) (by rfl) (by rfl))) (Ev.look ev_int)))))) (Ev.look ev_str)))))) (run_app c (i := 1) (by decide +kernel) (by rfl) (by rfl) (ev_slice (Ev.look (ev_var c.toCw (i := 0) (by decide +kernel) (by rfl) (by rfl))) (evp_some (Ev.look (ev_var c.toCw (i := 3) (by decide +kernel) (by rfl) (by rfl)))) (evp_some (Ev.look (ev_var c.toCw (i := 4) (by decide +kernel) (by rfl) (by rfl))))) (fun v_words => (run_set c (i := 3) (by decide +kernel) (by rfl) (ev_add (Ev.look (ev_var c.toCw (i := 4) (by decide +kernel) (by rfl) (by rfl))) (Ev.look ev_int)) (fun v_begin => (run_nil (le_eq (le_eq (le_eq (le_eq (le_no le_nil)))))))))) (run_nil (le_eq (le_eq (le_eq (le_eq (le_no le_nil)))))))))) (fun s1 => (run_ret (t := ()) (ev_add (evb_own c.toCw (i := 1) (by decide +kernel) (by rfl) (by rfl)) (Ev.look (EvL.ev (evl_lst1 (ev_slice (Ev.look (ev_var c.toCw (i := 0) (by decide +kernel) (by rfl) (by rfl))) (evp_some (Ev.look (ev_var c.toCw (i := 3) (by decide +kernel) (by rfl) (by rfl)))) evp_none))))) ht0)))))))))
theorem d_split_steps {P : Program} {w : World} {K : PySem.W.Frag} {mg : Str → Option Value} {base : Heap} (g : G P w K mg base) : Df P w K mg base CX0 1 "split_steps" (spP K 1 (l1 m_split_steps)) :=
  df_of g.at_split_steps s_split_steps (m := l1 m_split_steps) (o := l1 o_split_steps) (fun ds hl => match ds, hl with | [v_text], _ => (show m_split_steps v_text = endR0 (o_split_steps v_text) from rfl))
    fun X c e1 e2 e3 e4 e5 e6 => by subst e1 e2 e3 e4 e5; exact fun ds hl => match ds, hl with | [v_text], _ => r_split_steps c noW0 g (by decide) v_text
theorem s_move_index : FnScope ["book", "name", "m"] ["book", "name"] (defScope (top 9)) := ⟨rfl, rfl, rfl, by decide +kernel, rfl, by decide +kernel, by decide +kernel⟩
theorem r_move_index {X : Cx} {k : Nat} (c : Cd CX0 k wd0 ["book", "name", "m"] (defScope (top 9)) X) (W : NoW wd0) (g : G X.prog X.w X.K X.mg X.base) (hk : 0 ≤ k) (v_book v_name : D) :
    Run X wd0 (fun _ : Unit => [.no, .no, .no]) (fun e : Empty => e.elim) (fun _ : Unit => []) [.d v_book, .d v_name, .no] (defBody (top 9)) (o_move_index v_book v_name) :=
  (run_for (S1 := Unit) (eS1 := fun (s1 : Unit) => [.d v_book, .d v_name, .no]) (s0 := ()) c (i := 2) (by decide +kernel) (by rfl) (evi_r1 c.toCw g.bt (by decide +kernel) (Ev.look (ev_len c.toCw g.bt (by decide +kernel) (Ev.look (ev_ix (Ev.look (ev_var c.toCw (i := 0) (by decide +kernel) (by rfl) (by rfl))) (Ev.look ev_int)))))) (le_eq (le_eq (le_no le_nil))) (fun s1 v_m => (run_if1 (evt_eq c.toCw (Ev.look (ev_ix (Ev.look (ev_ix (Ev.look (ev_ix (Ev.look (ev_var c.toCw (i := 0) (by decide +kernel) (by rfl) (by rfl))) (Ev.look ev_int))) (Ev.look (ev_var c.toCw (i := 2) (by decide +kernel) (by rfl) (by rfl))))) (Ev.look ev_int))) (Ev.look (ev_var c.toCw (i := 1) (by decide +kernel) (by rfl) (by rfl)))) (run_ret (t := ()) (ev_var c.toCw (i := 2) (by decide +kernel) (by rfl) (by rfl)) ht0) (run_nil (le_eq (le_eq (le_no le_nil)))))) (fun s1 => (run_ret (t := ()) ev_non ht0)))
theorem d_move_index {P : Program} {w : World} {K : PySem.W.Frag} {mg : Str → Option Value} {base : Heap} (g : G P w K mg base) : Df P w K mg base CX0 1 "move_index" (spP K 2 (l2 m_move_index)) :=
  df_of g.at_move_index s_move_index (m := l2 m_move_index) (o := l2 o_move_index) (fun ds hl => match ds, hl with | [v_book, v_name], _ => (show m_move_index v_book v_name = endR0 (o_move_index v_book v_name) from rfl))
    fun X c e1 e2 e3 e4 e5 e6 => by subst e1 e2 e3 e4 e5; exact fun ds hl => match ds, hl with | [v_book, v_name], _ => r_move_index c noW0 g (by decide) v_book v_name
theorem s_step_of : FnScope ["book", "text", "nested", "m", "head", "times", "begin", "inside"] ["book", "text", "nested"] (defScope (top 33)) := ⟨rfl, rfl, rfl, by decide +kernel, rfl, by decide +kernel, by decide +kernel⟩
theorem r_step_of {X : Cx} {k : Nat} (c : Cd CX0 k wd0 ["book", "text", "nested", "m", "head", "times", "begin", "inside"] (defScope (top 33)) X) (W : NoW wd0) (g : G X.prog X.w X.K X.mg X.base) (hk : 1 ≤ k) {j : Nat} {rec : D → D → D → R D} (hrec : Df X.prog X.w X.K X.mg X.base CX0 j "steps_of" (spP X.K 3 (l3 rec))) (hj : j + 0 ≤ k) (hb : 2 ≤ j) (v_book v_text v_nested : D) :
    Run X wd0 (fun _ : Unit => [.no, .no, .no, .no, .no, .no, .no, .no]) (fun e : Empty => e.elim) (fun _ : Unit => []) [.d v_book, .d v_text, .d v_nested, .no, .no, .no, .no, .no] (defBody (top 33)) (o_step_of rec v_book v_text v_nested) :=
  (run_set c (i := 3) (by decide +kernel) (by rfl) (ev_call2 c.toCw W (d_move_index g) (Nat.le_trans (by decide) hk) (by decide +kernel) (ev_var c.toCw (i := 0) (by decide +kernel) (by rfl) (by rfl)) (ev_var c.toCw (i := 1) (by decide +kernel) (by rfl) (by rfl))) (fun v_m => (run_ifx (eE := fun e => e.elim) (evt_isNot (Ev.look (ev_var c.toCw (i := 3) (by decide +kernel) (by rfl) (by rfl))) (Ev.look ev_non)) (run_ret (t := ()) (ev_tup2 ev_str (ev_var c.toCw (i := 3) (by decide +kernel) (by rfl) (by rfl))) ht0) (run_set c (i := 4) (by decide +kernel) (by rfl) (ev_ix (Ev.look (EvL.ev (evl_split (Ev.look (ev_var c.toCw (i := 1) (by decide +kernel) (by rfl) (by rfl))) (Ev.look ev_str)))) (Ev.look ev_int)) (fun v_head => (run_set c (i := 5) (by decide +kernel) (by rfl) (ev_call2 c.toCw W (d_number_of g) (Nat.le_trans (by decide) hk) (by decide +kernel) (ev_var c.toCw (i := 4) (by decide +kernel) (by rfl) (by rfl)) (ev_con c.toCw (by decide +kernel) g.con_MOST)) (fun v_times => (run_set c (i := 6) (by decide +kernel) (by rfl) (ev_add (Ev.look (ev_len c.toCw g.bt (by decide +kernel) (Ev.look (ev_var c.toCw (i := 4) (by decide +kernel) (by rfl) (by rfl))))) (Ev.look ev_int)) (fun v_begin => (run_ifx (eE := fun e => e.elim) (evt_w (evw_or (evt_is (Ev.look (ev_var c.toCw (i := 5) (by decide +kernel) (by rfl) (by rfl))) (Ev.look ev_non)) (evw_or (evt_eq c.toCw (Ev.look (ev_var c.toCw (i := 5) (by decide +kernel) (by rfl) (by rfl))) (Ev.look ev_int)) (evw_or (evt_ne c.toCw (Ev.look (ev_slice (Ev.look (ev_var c.toCw (i := 1) (by decide +kernel) (by rfl) (by rfl))) (evp_some (Ev.look (ev_len c.toCw g.bt (by decide +kernel) (Ev.look (ev_var c.toCw (i := 4) (by decide +kernel) (by rfl) (by rfl)))))) (evp_some (Ev.look (ev_var c.toCw (i := 6) (by decide +kernel) (by rfl) (by rfl)))))) (Ev.look ev_str)) (evw_or1 (evt_ne c.toCw (Ev.look (ev_ix (Ev.look (ev_var c.toCw (i := 1) (by decide +kernel) (by rfl) (by rfl))) (Ev.look (ev_neg (Ev.look ev_int))))) (Ev.look ev_str))))))) (run_ret (t := ()) ev_non ht0) (run_set c (i := 7) (by decide +kernel) (by rfl) (ev_call3 c.toCw W hrec (by omega) (by decide +kernel) (ev_var c.toCw (i := 0) (by decide +kernel) (by rfl) (by rfl)) (ev_slice (Ev.look (ev_var c.toCw (i := 1) (by decide +kernel) (by rfl) (by rfl))) (evp_some (Ev.look (ev_var c.toCw (i := 6) (by decide +kernel) (by rfl) (by rfl)))) (evp_some (Ev.look (ev_neg (Ev.look ev_int))))) (ev_sub (Ev.look (ev_var c.toCw (i := 2) (by decide +kernel) (by rfl) (by rfl))) (Ev.look ev_int))) (fun v_inside => (run_ret (t := ()) (ev_ifExp (evt_w (evw_or (evt_is (Ev.look (ev_var c.toCw (i := 7) (by decide +kernel) (by rfl) (by rfl))) (Ev.look ev_non)) (evw_or1 (evt_eq c.toCw (Ev.look (ev_var c.toCw (i := 7) (by decide +kernel) (by rfl) (by rfl))) (Ev.look ev_tup0))))) ev_non (ev_tup3 ev_str (ev_var c.toCw (i := 5) (by decide +kernel) (by rfl) (by rfl)) (ev_var c.toCw (i := 7) (by decide +kernel) (by rfl) (by rfl)))) ht0)))))))))))))
theorem d_step_of {P : Program} {w : World} {K : PySem.W.Frag} {mg : Str → Option Value} {base : Heap} (g : G P w K mg base) {j : Nat} {rec : D → D → D → R D} (hrec : Df P w K mg base CX0 j "steps_of" (spP K 3 (l3 rec))) (hb : 2 ≤ j) : Df P w K mg base CX0 (j + 1) "step_of" (spP K 3 (l3 (m_step_of rec))) :=
  df_of (k := j + 0) g.at_step_of s_step_of (m := l3 (m_step_of rec)) (o := l3 (o_step_of rec)) (fun ds hl => match ds, hl with | [v_book, v_text, v_nested], _ => rfl)
    fun X c e1 e2 e3 e4 e5 e6 => by subst e1 e2 e3 e4 e5; exact fun ds hl => match ds, hl with | [v_book, v_text, v_nested], _ => r_step_of (k := j + 0) c noW0 g (by omega) hrec (by omega) hb v_book v_text v_nested
theorem s_steps_of : FnScope ["book", "text", "nested", "steps", "word", "step"] ["book", "text", "nested"] (defScope (top 34)) := ⟨rfl, rfl, rfl, by decide +kernel, rfl, by decide +kernel, by decide +kernel⟩
theorem r_steps_of {X : Cx} {k : Nat} (c : Cd CX0 k wd0 ["book", "text", "nested", "steps", "word", "step"] (defScope (top 34)) X) (W : NoW wd0) (g : G X.prog X.w X.K X.mg X.base) (hk : 1 ≤ k) {j : Nat} {rec : D → D → D → R D} (hrec : Df X.prog X.w X.K X.mg X.base CX0 j "steps_of" (spP X.K 3 (l3 rec))) (hj : j + 1 ≤ k) (hb : 2 ≤ j) (v_book v_text v_nested : D) :
    Run X wd0 (fun _ : Unit => [.no, .no, .no, .no, .no, .no]) (fun e : Empty => e.elim) (fun _ : Unit => []) [.d v_book, .d v_text, .d v_nested, .no, .no, .no] (defBody (top 34)) (o_steps_of rec v_book v_text v_nested) :=
  (run_ifx (eE := fun e => e.elim) (evt_eq c.toCw (Ev.look (ev_var c.toCw (i := 2) (by decide +kernel) (by rfl) (by rfl))) (Ev.look ev_int)) (run_ret (t := ()) ev_non ht0) (run_ifx (eE := fun e => e.elim) (evt_eq c.toCw (Ev.look (ev_var c.toCw (i := 1) (by decide +kernel) (by rfl) (by rfl))) (Ev.look ev_str)) (run_ret (t := ()) ev_tup0 ht0) (run_setO c (i := 3) (by decide +kernel) (by rfl) (by rfl) evl_nil (fun v_steps => (run_for (S1 := List D) (eS1 := fun (s1 : List D) => [.d v_book, .d v_text, .d v_nested, .l s1, .no, .no]) (s0 := v_steps) c (i := 4) (by decide +kernel) (by rfl) (evi_seq (ev_call1 c.toCw W (d_split_steps g) (Nat.le_trans (by decide) hk) (by decide +kernel) (ev_var c.toCw (i := 1) (by decide +kernel) (by rfl) (by rfl)))) (le_eq (le_eq (le_eq (le_eq (le_no (le_no le_nil)))))) (fun s1 v_word => (run_set c (i := 5) (by decide +kernel) (by rfl) (ev_ifExp (evt_ne c.toCw (Ev.look (ev_var c.toCw (i := 4) (by decide +kernel) (by rfl) (by rfl))) (Ev.look ev_str)) (ev_call3 c.toCw W (d_step_of g hrec hb) (by omega) (by decide +kernel) (ev_var c.toCw (i := 0) (by decide +kernel) (by rfl) (by rfl)) (ev_var c.toCw (i := 4) (by decide +kernel) (by rfl) (by rfl)) (ev_var c.toCw (i := 2) (by decide +kernel) (by rfl) (by rfl))) ev_non) (fun v_step => (run_ifx (eE := fun e => e.elim) (evt_is (Ev.look (ev_var c.toCw (i := 5) (by decide +kernel) (by rfl) (by rfl))) (Ev.look ev_non)) (run_ret (t := ()) ev_non ht0) (run_app c (i := 3) (by decide +kernel) (by rfl) (by rfl) (ev_var c.toCw (i := 5) (by decide +kernel) (by rfl) (by rfl)) (fun v_steps => (run_nil (le_eq (le_eq (le_eq (le_eq (le_no (le_no le_nil))))))))))))) (fun s1 => (run_ret (t := ()) (ev_tuple c.toCw g.bt (by decide +kernel) (evb_own c.toCw (i := 3) (by decide +kernel) (by rfl) (by rfl))) ht0)))))))
theorem d_steps_of {P : Program} {w : World} {K : PySem.W.Frag} {mg : Str → Option Value} {base : Heap} (g : G P w K mg base) : ∀ n : Nat, Df P w K mg base CX0 (2 + 2 * n) "steps_of" (spP K 3 (l3 (m_steps_of n)))
  | 0 => df_bad g.at_steps_of fun ds => (by unfold l3; split <;> rfl)
  | n + 1 => df_of (k := 2 + 2 * n + 1) g.at_steps_of s_steps_of (m := l3 (m_steps_of (n + 1))) (o := l3 (o_steps_of (m_steps_of n))) (fun ds hl => match ds, hl with | [v_book, v_text, v_nested], _ => rfl)
      fun X c e1 e2 e3 e4 e5 e6 => by subst e1 e2 e3 e4 e5; exact fun ds hl => match ds, hl with | [v_book, v_text, v_nested], _ => r_steps_of (k := 2 + 2 * n + 1) c noW0 g (by omega) (d_steps_of g n) (by omega) (by omega) v_book v_text v_nested
theorem s_read_run : FnScope ["book", "text", "run"] ["book", "text"] (defScope (top 35)) := ⟨rfl, rfl, rfl, by decide +kernel, rfl, by decide +kernel, by decide +kernel⟩
theorem r_read_run {X : Cx} {k : Nat} (c : Cd CX0 k wd0 ["book", "text", "run"] (defScope (top 35)) X) (W : NoW wd0) (g : G X.prog X.w X.K X.mg X.base) (hk : 14 ≤ k) (v_book v_text : D) :
    Run X wd0 (fun _ : Unit => [.no, .no, .no]) (fun e : Empty => e.elim) (fun _ : Unit => []) [.d v_book, .d v_text, .no] (defBody (top 35)) (o_read_run v_book v_text) :=
  (run_set c (i := 2) (by decide +kernel) (by rfl) (ev_call3 c.toCw W (d_steps_of g 6) (Nat.le_trans (by decide) hk) (by decide +kernel) (ev_var c.toCw (i := 0) (by decide +kernel) (by rfl) (by rfl)) (ev_var c.toCw (i := 1) (by decide +kernel) (by rfl) (by rfl)) (ev_con c.toCw (by decide +kernel) g.con_MAX_NESTED)) (fun v_run => (run_ifx (eE := fun e => e.elim) (evt_is (Ev.look (ev_var c.toCw (i := 2) (by decide +kernel) (by rfl) (by rfl))) (Ev.look ev_non)) run_bad (run_ret (t := ()) (ev_var c.toCw (i := 2) (by decide +kernel) (by rfl) (by rfl)) ht0))))
theorem d_read_run {P : Program} {w : World} {K : PySem.W.Frag} {mg : Str → Option Value} {base : Heap} (g : G P w K mg base) : Df P w K mg base CX0 15 "read_run" (spP K 2 (l2 m_read_run)) :=
  df_of g.at_read_run s_read_run (m := l2 m_read_run) (o := l2 o_read_run) (fun ds hl => match ds, hl with | [v_book, v_text], _ => (show m_read_run v_book v_text = endR0 (o_read_run v_book v_text) from rfl))
    fun X c e1 e2 e3 e4 e5 e6 => by subst e1 e2 e3 e4 e5; exact fun ds hl => match ds, hl with | [v_book, v_text], _ => r_read_run c noW0 g (by decide) v_book v_text
theorem s_law : FnScope ["_law_script", "_law_draws_here", "_law_book_here", "_law_kinds", "_law_stock_here", "_law_extended", "_law_text", "_law_run_here", "_law_k", "_law_entry"] ["_law_script"] (defScope (top 51)) := ⟨rfl, rfl, rfl, by decide +kernel, rfl, by decide +kernel, by decide +kernel⟩
theorem r_law {X : Cx} {k : Nat} {dra : Addr × Addr} (c : Cd CX0 k (wdD dra) ["_law_script", "_law_draws_here", "_law_book_here", "_law_kinds", "_law_stock_here", "_law_extended", "_law_text", "_law_run_here", "_law_k", "_law_entry"] (defScope (top 51)) X) (W : NoW (wdD dra)) (g : G X.prog X.w X.K X.mg X.base) (hk : 15 ≤ k) :
    Run X (wdD dra) (fun _ : Unit => [.no, .no, .no, .no, .no, .no, .no, .no, .no, .no]) (fun e : Empty => e.elim) (fun _ : Unit => []) [.no, .w, .no, .no, .no, .no, .no, .no, .no, .no] ((defBody (top 51)).tail) o_law :=
  (run_set c (i := 2) (by decide +kernel) (by rfl) (ev_callD1 c.toCw W (d_law_book g) (Nat.le_trans (by decide) hk) (by decide +kernel) (i := 1) (by decide +kernel) (by rfl) (by rfl) ev_int) (fun v_law_book_here => (run_set c (i := 3) (by decide +kernel) (by rfl) (ev_ix (Ev.look (ev_var c.toCw (i := 2) (by decide +kernel) (by rfl) (by rfl))) (Ev.look ev_int)) (fun v_law_kinds => (run_ifx (eE := fun e => e.elim) (evt_ne c.toCw (Ev.look (ev_call1 c.toCw W (d_print_book g) (Nat.le_trans (by decide) hk) (by decide +kernel) (ev_var c.toCw (i := 2) (by decide +kernel) (by rfl) (by rfl)))) (Ev.look (ev_callD2 c.toCw W (d_law_book_text g) (Nat.le_trans (by decide) hk) (by decide +kernel) (i := 1) (by decide +kernel) (by rfl) (by rfl) (ev_var c.toCw (i := 2) (by decide +kernel) (by rfl) (by rfl)) ev_bl))) (run_ret (t := ()) ev_bl ht0) (run_ifx (eE := fun e => e.elim) (evt_w (evw_or (evt_ne c.toCw (Ev.look (ev_call1 c.toCw W (d_read_book g) (Nat.le_trans (by decide) hk) (by decide +kernel) (ev_call1 c.toCw W (d_print_book g) (Nat.le_trans (by decide) hk) (by decide +kernel) (ev_var c.toCw (i := 2) (by decide +kernel) (by rfl) (by rfl))))) (Ev.look (ev_var c.toCw (i := 2) (by decide +kernel) (by rfl) (by rfl)))) (evw_or1 (evt_ne c.toCw (Ev.look (ev_call1 c.toCw W (d_read_book g) (Nat.le_trans (by decide) hk) (by decide +kernel) (ev_callD2 c.toCw W (d_law_book_text g) (Nat.le_trans (by decide) hk) (by decide +kernel) (i := 1) (by decide +kernel) (by rfl) (by rfl) (ev_var c.toCw (i := 2) (by decide +kernel) (by rfl) (by rfl)) ev_bl))) (Ev.look (ev_var c.toCw (i := 2) (by decide +kernel) (by rfl) (by rfl))))))) (run_ret (t := ()) ev_bl ht0) (run_set c (i := 4) (by decide +kernel) (by rfl) (ev_tuple c.toCw g.bt (by decide +kernel) (Ev.look (EvL.ev (evl_comp c.toCw (i := 8) (by decide +kernel) (by rfl) (by decide +kernel) (by rfl) (by rfl) (evj_seq (Ev.look (ev_var c.toCw (i := 3) (by decide +kernel) (by rfl) (by rfl)))) (fun v_law_k s0 H0 C cl fp => have c3 := Cw.blk c.toCw cx0F s0 H0 _ C cl fp; have W4 := NoW.calm W; (ev_ix (Ev.look (EvL.ev (evl_lst4 ev_int ev_int (ev_pow (Ev.look ev_int) (Ev.look ev_int)) (ev_callD1 c3 W4 (d_law_take g) (Nat.le_trans (by decide) hk) (by decide +kernel) (i := 1) (by decide +kernel) (by rfl) (by rfl) (ev_pow (Ev.look ev_int) (Ev.look ev_int)))))) (Ev.look (ev_callD1 c3 W4 (d_law_take g) (Nat.le_trans (by decide) hk) (by decide +kernel) (i := 1) (by decide +kernel) (by rfl) (by rfl) ev_int)))))))) (fun v_law_stock_here => (run_ifx (eE := fun e => e.elim) (evt_ne c.toCw (Ev.look (ev_call2 c.toCw W (d_print_stock g) (Nat.le_trans (by decide) hk) (by decide +kernel) (ev_var c.toCw (i := 2) (by decide +kernel) (by rfl) (by rfl)) (ev_var c.toCw (i := 4) (by decide +kernel) (by rfl) (by rfl)))) (Ev.look (ev_callD3 c.toCw W (d_law_stock_text g) (Nat.le_trans (by decide) hk) (by decide +kernel) (i := 1) (by decide +kernel) (by rfl) (by rfl) (ev_var c.toCw (i := 3) (by decide +kernel) (by rfl) (by rfl)) (ev_var c.toCw (i := 4) (by decide +kernel) (by rfl) (by rfl)) ev_bl))) (run_ret (t := ()) ev_bl ht0) (run_ifx (eE := fun e => e.elim) (evt_ne c.toCw (Ev.look (ev_call2 c.toCw W (d_read_stock g) (Nat.le_trans (by decide) hk) (by decide +kernel) (ev_var c.toCw (i := 2) (by decide +kernel) (by rfl) (by rfl)) (ev_call2 c.toCw W (d_print_stock g) (Nat.le_trans (by decide) hk) (by decide +kernel) (ev_var c.toCw (i := 2) (by decide +kernel) (by rfl) (by rfl)) (ev_var c.toCw (i := 4) (by decide +kernel) (by rfl) (by rfl))))) (Ev.look (ev_var c.toCw (i := 4) (by decide +kernel) (by rfl) (by rfl)))) (run_ret (t := ()) ev_bl ht0) (run_set c (i := 5) (by decide +kernel) (by rfl) (ev_tuple c.toCw g.bt (by decide +kernel) (Ev.look (EvL.ev (evl_comp c.toCw (i := 9) (by decide +kernel) (by rfl) (by decide +kernel) (by rfl) (by rfl) (evj_seq (Ev.look (ev_var c.toCw (i := 4) (by decide +kernel) (by rfl) (by rfl)))) (fun v_law_entry s0 H0 C cl fp => have c1 := Cw.blk c.toCw cx0F s0 H0 _ C cl fp; have W2 := NoW.calm W; (ev_ix (Ev.look (EvL.ev (evl_lst2 (ev_neg (Ev.look ev_int)) (ev_var c1 (i := 9) (by decide +kernel) (by rfl) (by rfl))))) (Ev.look (ev_callD1 c1 W2 (d_law_take g) (Nat.le_trans (by decide) hk) (by decide +kernel) (i := 1) (by decide +kernel) (by rfl) (by rfl) ev_int)))))))) (fun v_law_extended => (run_set c (i := 6) (by decide +kernel) (by rfl) (ev_callD3 c.toCw W (d_law_stock_text g) (Nat.le_trans (by decide) hk) (by decide +kernel) (i := 1) (by decide +kernel) (by rfl) (by rfl) (ev_var c.toCw (i := 3) (by decide +kernel) (by rfl) (by rfl)) (ev_var c.toCw (i := 5) (by decide +kernel) (by rfl) (by rfl)) ev_bl) (fun v_law_text => (run_ifx (eE := fun e => e.elim) (evt_ne c.toCw (Ev.look (ev_call2 c.toCw W (d_print_stock g) (Nat.le_trans (by decide) hk) (by decide +kernel) (ev_var c.toCw (i := 2) (by decide +kernel) (by rfl) (by rfl)) (ev_var c.toCw (i := 5) (by decide +kernel) (by rfl) (by rfl)))) (Ev.look (ev_callD3 c.toCw W (d_law_stock_text g) (Nat.le_trans (by decide) hk) (by decide +kernel) (i := 1) (by decide +kernel) (by rfl) (by rfl) (ev_var c.toCw (i := 3) (by decide +kernel) (by rfl) (by rfl)) (ev_var c.toCw (i := 5) (by decide +kernel) (by rfl) (by rfl)) ev_bl))) (run_ret (t := ()) ev_bl ht0) (run_ifx (eE := fun e => e.elim) (evt_w (evw_or (evt_ne c.toCw (Ev.look (ev_call2 c.toCw W (d_read_extended g) (Nat.le_trans (by decide) hk) (by decide +kernel) (ev_var c.toCw (i := 2) (by decide +kernel) (by rfl) (by rfl)) (ev_var c.toCw (i := 6) (by decide +kernel) (by rfl) (by rfl)))) (Ev.look (ev_var c.toCw (i := 5) (by decide +kernel) (by rfl) (by rfl)))) (evw_or1 (evt_ne c.toCw (Ev.look (ev_call2 c.toCw W (d_read_stock g) (Nat.le_trans (by decide) hk) (by decide +kernel) (ev_var c.toCw (i := 2) (by decide +kernel) (by rfl) (by rfl)) (ev_callD3 c.toCw W (d_law_stock_text g) (Nat.le_trans (by decide) hk) (by decide +kernel) (i := 1) (by decide +kernel) (by rfl) (by rfl) (ev_var c.toCw (i := 3) (by decide +kernel) (by rfl) (by rfl)) (ev_var c.toCw (i := 4) (by decide +kernel) (by rfl) (by rfl)) ev_bl))) (Ev.look (ev_var c.toCw (i := 4) (by decide +kernel) (by rfl) (by rfl))))))) (run_ret (t := ()) ev_bl ht0) (run_set c (i := 7) (by decide +kernel) (by rfl) (ev_callD3 c.toCw W (d_law_run g 6) (Nat.le_trans (by decide) hk) (by decide +kernel) (i := 1) (by decide +kernel) (by rfl) (by rfl) (ev_len c.toCw g.bt (by decide +kernel) (Ev.look (ev_ix (Ev.look (ev_var c.toCw (i := 2) (by decide +kernel) (by rfl) (by rfl))) (Ev.look ev_int)))) ev_int (ev_pow (Ev.look ev_int) (Ev.look ev_int))) (fun v_law_run_here => (run_ret (t := ()) (ev_and (ev_eq c.toCw (Ev.look (ev_call2 c.toCw W (d_print_run g 6) (Nat.le_trans (by decide) hk) (by decide +kernel) (ev_var c.toCw (i := 2) (by decide +kernel) (by rfl) (by rfl)) (ev_var c.toCw (i := 7) (by decide +kernel) (by rfl) (by rfl)))) (Ev.look (ev_call2 c.toCw W (d_law_run_text g 6) (Nat.le_trans (by decide) hk) (by decide +kernel) (ev_var c.toCw (i := 2) (by decide +kernel) (by rfl) (by rfl)) (ev_var c.toCw (i := 7) (by decide +kernel) (by rfl) (by rfl))))) (ev_one (ev_eq c.toCw (Ev.look (ev_call2 c.toCw W (d_read_run g) (Nat.le_trans (by decide) hk) (by decide +kernel) (ev_var c.toCw (i := 2) (by decide +kernel) (by rfl) (by rfl)) (ev_call2 c.toCw W (d_print_run g 6) (Nat.le_trans (by decide) hk) (by decide +kernel) (ev_var c.toCw (i := 2) (by decide +kernel) (by rfl) (by rfl)) (ev_var c.toCw (i := 7) (by decide +kernel) (by rfl) (by rfl))))) (Ev.look (ev_var c.toCw (i := 7) (by decide +kernel) (by rfl) (by rfl)))))) ht0)))))))))))))))))))
theorem d_law {P : Program} {w : World} {K : PySem.W.Frag} {mg : Str → Option Value} {base : Heap} (g : G P w K mg base) {f : Addr} {fd : FuncData} (F : Fun K "law" "law" (top 51) f fd) (hm : ∀ ns : List Int, ns.length ≤ 63 → (m_law_numbers (.list (ns.map PyData.int)) (.int drawCount)).wp rowsOk (fun _ _ => False)) (ho : o_law.wp (fun x => ∃ t, x = .rt (.bool true) t) fun _ _ => False) :
    FnOk P w K mg base CX0 16 f fd ["_law_script"] (spLaw K) :=
  ok_law F s_law rfl (d_law_draws g) (by decide) hm (by decide +kernel) rfl (fun X a c e1 e2 e3 e4 e5 => by subst e1 e2 e3 e4 e5; exact r_law c (noWD a) g (by decide)) ho
theorem all_mk {l : PySem.W.OpenLaw} {w : World} {K : PySem.W.Frag} {h : Heap} {mg : Str → Option Value} {fa : Addr} (X : K.In h) (Gm : h.Ns mainGlobals mg) (hfa : mg "law" = some (.ref fa))
    {f1 : Addr} {od1 an1 : Option Addr} {sl1 : Array (Option Value)} {oc1 kV1 dc1 pm1 cd1 ct1 : Value}
    {f2 : Addr} {od2 an2 : Option Addr} {sl2 : Array (Option Value)} {oc2 kV2 dc2 pm2 cd2 ct2 : Value}
    {f3 : Addr} {od3 an3 : Option Addr} {sl3 : Array (Option Value)} {oc3 kV3 dc3 pm3 cd3 ct3 : Value}
    {f4 : Addr} {od4 an4 : Option Addr} {sl4 : Array (Option Value)} {oc4 kV4 dc4 pm4 cd4 ct4 : Value}
    {f5 : Addr} {od5 an5 : Option Addr} {sl5 : Array (Option Value)} {oc5 kV5 dc5 pm5 cd5 ct5 : Value}
    {f6 : Addr} {od6 an6 : Option Addr} {sl6 : Array (Option Value)} {oc6 kV6 dc6 pm6 cd6 ct6 : Value}
    {f7 : Addr} {od7 an7 : Option Addr} {sl7 : Array (Option Value)} {oc7 kV7 dc7 pm7 cd7 ct7 : Value}
    {f8 : Addr} {od8 an8 : Option Addr} {sl8 : Array (Option Value)} {oc8 kV8 dc8 pm8 cd8 ct8 : Value}
    {f9 : Addr} {od9 an9 : Option Addr} {sl9 : Array (Option Value)} {oc9 kV9 dc9 pm9 cd9 ct9 : Value}
    {f10 : Addr} {od10 an10 : Option Addr} {sl10 : Array (Option Value)} {oc10 kV10 dc10 pm10 cd10 ct10 : Value}
    {f11 : Addr} {od11 an11 : Option Addr} {sl11 : Array (Option Value)} {oc11 kV11 dc11 pm11 cd11 ct11 : Value}
    {f12 : Addr} {od12 an12 : Option Addr} {sl12 : Array (Option Value)} {oc12 kV12 dc12 pm12 cd12 ct12 : Value}
    {f13 : Addr} {od13 an13 : Option Addr} {sl13 : Array (Option Value)} {oc13 kV13 dc13 pm13 cd13 ct13 : Value}
    {f14 : Addr} {od14 an14 : Option Addr} {sl14 : Array (Option Value)} {oc14 kV14 dc14 pm14 cd14 ct14 : Value}
    {f15 : Addr} {od15 an15 : Option Addr} {sl15 : Array (Option Value)} {oc15 kV15 dc15 pm15 cd15 ct15 : Value}
    {f16 : Addr} {od16 an16 : Option Addr} {sl16 : Array (Option Value)} {oc16 kV16 dc16 pm16 cd16 ct16 : Value}
    {f17 : Addr} {od17 an17 : Option Addr} {sl17 : Array (Option Value)} {oc17 kV17 dc17 pm17 cd17 ct17 : Value}
    {f18 : Addr} {od18 an18 : Option Addr} {sl18 : Array (Option Value)} {oc18 kV18 dc18 pm18 cd18 ct18 : Value}
    {f19 : Addr} {od19 an19 : Option Addr} {sl19 : Array (Option Value)} {oc19 kV19 dc19 pm19 cd19 ct19 : Value}
    {f20 : Addr} {od20 an20 : Option Addr} {sl20 : Array (Option Value)} {oc20 kV20 dc20 pm20 cd20 ct20 : Value}
    {f21 : Addr} {od21 an21 : Option Addr} {sl21 : Array (Option Value)} {oc21 kV21 dc21 pm21 cd21 ct21 : Value}
    {f22 : Addr} {od22 an22 : Option Addr} {sl22 : Array (Option Value)} {oc22 kV22 dc22 pm22 cd22 ct22 : Value}
    {f23 : Addr} {od23 an23 : Option Addr} {sl23 : Array (Option Value)} {oc23 kV23 dc23 pm23 cd23 ct23 : Value}
    {f24 : Addr} {od24 an24 : Option Addr} {sl24 : Array (Option Value)} {oc24 kV24 dc24 pm24 cd24 ct24 : Value}
    {f25 : Addr} {od25 an25 : Option Addr} {sl25 : Array (Option Value)} {oc25 kV25 dc25 pm25 cd25 ct25 : Value}
    {f26 : Addr} {od26 an26 : Option Addr} {sl26 : Array (Option Value)} {oc26 kV26 dc26 pm26 cd26 ct26 : Value}
    {f27 : Addr} {od27 an27 : Option Addr} {sl27 : Array (Option Value)} {oc27 kV27 dc27 pm27 cd27 ct27 : Value}
    {f28 : Addr} {od28 an28 : Option Addr} {sl28 : Array (Option Value)} {oc28 kV28 dc28 pm28 cd28 ct28 : Value}
    {f29 : Addr} {od29 an29 : Option Addr} {sl29 : Array (Option Value)} {oc29 kV29 dc29 pm29 cd29 ct29 : Value}
    {f30 : Addr} {od30 an30 : Option Addr} {sl30 : Array (Option Value)} {oc30 kV30 dc30 pm30 cd30 ct30 : Value}
    {f31 : Addr} {od31 an31 : Option Addr} {sl31 : Array (Option Value)} {oc31 kV31 dc31 pm31 cd31 ct31 : Value}
    {f32 : Addr} {od32 an32 : Option Addr} {sl32 : Array (Option Value)} {oc32 kV32 dc32 pm32 cd32 ct32 : Value}
    {f33 : Addr} {od33 an33 : Option Addr} {sl33 : Array (Option Value)} {oc33 kV33 dc33 pm33 cd33 ct33 : Value}
    {f34 : Addr} {od34 an34 : Option Addr} {sl34 : Array (Option Value)} {oc34 kV34 dc34 pm34 cd34 ct34 : Value}
    {f35 : Addr} {od35 an35 : Option Addr} {sl35 : Array (Option Value)} {oc35 kV35 dc35 pm35 cd35 ct35 : Value}
    {f36 : Addr} {od36 an36 : Option Addr} {sl36 : Array (Option Value)} {oc36 kV36 dc36 pm36 cd36 ct36 : Value}
    {f37 : Addr} {od37 an37 : Option Addr} {sl37 : Array (Option Value)} {oc37 kV37 dc37 pm37 cd37 ct37 : Value}
    {f38 : Addr} {od38 an38 : Option Addr} {sl38 : Array (Option Value)} {oc38 kV38 dc38 pm38 cd38 ct38 : Value}
    {t_SMALL : Tok}
    {t_DIGITS : Tok}
    {t_RESERVED_0 t_RESERVED_1 t_RESERVED_2 t_RESERVED_3 : Tok} {ad_RESERVED : Addr} {od_RESERVED : Option Addr} {n_RESERVED : Nat} {sl_RESERVED : Array (Option Value)}
    {t_MAX_KINDS : Tok}
    {t_MAX_MOVES : Tok}
    {t_MAX_ENTRY : Tok}
    {t_MAX_NESTED : Tok}
    {t_MOST : Tok}
    (a1 : PySem.W.nsIn K mainGlobals "is_name" = some (some (.ref f1))) (l1 : K.lookup f1 = some ⟨oc1, od1, .func (PySem.W.fnOf "is_name" "is_name" (defArgs (top 8)) (defBody (top 8)) (defScope (top 8)) .none kV1 dc1 pm1 an1 cd1 ct1), sl1⟩) (c1 : PySem.W.codeIn K cd1 "is_name" = true) (k1 : PySem.W.keepIn K (.ref f1) = true)
    (a2 : PySem.W.nsIn K mainGlobals "move_index" = some (some (.ref f2))) (l2 : K.lookup f2 = some ⟨oc2, od2, .func (PySem.W.fnOf "move_index" "move_index" (defArgs (top 9)) (defBody (top 9)) (defScope (top 9)) .none kV2 dc2 pm2 an2 cd2 ct2), sl2⟩) (c2 : PySem.W.codeIn K cd2 "move_index" = true) (k2 : PySem.W.keepIn K (.ref f2) = true)
    (a3 : PySem.W.nsIn K mainGlobals "print_items" = some (some (.ref f3))) (l3 : K.lookup f3 = some ⟨oc3, od3, .func (PySem.W.fnOf "print_items" "print_items" (defArgs (top 15)) (defBody (top 15)) (defScope (top 15)) .none kV3 dc3 pm3 an3 cd3 ct3), sl3⟩) (c3 : PySem.W.codeIn K cd3 "print_items" = true) (k3 : PySem.W.keepIn K (.ref f3) = true)
    (a4 : PySem.W.nsIn K mainGlobals "written" = some (some (.ref f4))) (l4 : K.lookup f4 = some ⟨oc4, od4, .func (PySem.W.fnOf "written" "written" (defArgs (top 16)) (defBody (top 16)) (defScope (top 16)) .none kV4 dc4 pm4 an4 cd4 ct4), sl4⟩) (c4 : PySem.W.codeIn K cd4 "written" = true) (k4 : PySem.W.keepIn K (.ref f4) = true)
    (a5 : PySem.W.nsIn K mainGlobals "print_stock" = some (some (.ref f5))) (l5 : K.lookup f5 = some ⟨oc5, od5, .func (PySem.W.fnOf "print_stock" "print_stock" (defArgs (top 17)) (defBody (top 17)) (defScope (top 17)) .none kV5 dc5 pm5 an5 cd5 ct5), sl5⟩) (c5 : PySem.W.codeIn K cd5 "print_stock" = true) (k5 : PySem.W.keepIn K (.ref f5) = true)
    (a6 : PySem.W.nsIn K mainGlobals "print_range" = some (some (.ref f6))) (l6 : K.lookup f6 = some ⟨oc6, od6, .func (PySem.W.fnOf "print_range" "print_range" (defArgs (top 18)) (defBody (top 18)) (defScope (top 18)) .none kV6 dc6 pm6 an6 cd6 ct6), sl6⟩) (c6 : PySem.W.codeIn K cd6 "print_range" = true) (k6 : PySem.W.keepIn K (.ref f6) = true)
    (a7 : PySem.W.nsIn K mainGlobals "print_move" = some (some (.ref f7))) (l7 : K.lookup f7 = some ⟨oc7, od7, .func (PySem.W.fnOf "print_move" "print_move" (defArgs (top 19)) (defBody (top 19)) (defScope (top 19)) .none kV7 dc7 pm7 an7 cd7 ct7), sl7⟩) (c7 : PySem.W.codeIn K cd7 "print_move" = true) (k7 : PySem.W.keepIn K (.ref f7) = true)
    (a8 : PySem.W.nsIn K mainGlobals "print_book" = some (some (.ref f8))) (l8 : K.lookup f8 = some ⟨oc8, od8, .func (PySem.W.fnOf "print_book" "print_book" (defArgs (top 20)) (defBody (top 20)) (defScope (top 20)) .none kV8 dc8 pm8 an8 cd8 ct8), sl8⟩) (c8 : PySem.W.codeIn K cd8 "print_book" = true) (k8 : PySem.W.keepIn K (.ref f8) = true)
    (a9 : PySem.W.nsIn K mainGlobals "print_run" = some (some (.ref f9))) (l9 : K.lookup f9 = some ⟨oc9, od9, .func (PySem.W.fnOf "print_run" "print_run" (defArgs (top 21)) (defBody (top 21)) (defScope (top 21)) .none kV9 dc9 pm9 an9 cd9 ct9), sl9⟩) (c9 : PySem.W.codeIn K cd9 "print_run" = true) (k9 : PySem.W.keepIn K (.ref f9) = true)
    (a10 : PySem.W.nsIn K mainGlobals "number_of" = some (some (.ref f10))) (l10 : K.lookup f10 = some ⟨oc10, od10, .func (PySem.W.fnOf "number_of" "number_of" (defArgs (top 22)) (defBody (top 22)) (defScope (top 22)) .none kV10 dc10 pm10 an10 cd10 ct10), sl10⟩) (c10 : PySem.W.codeIn K cd10 "number_of" = true) (k10 : PySem.W.keepIn K (.ref f10) = true)
    (a11 : PySem.W.nsIn K mainGlobals "read_items" = some (some (.ref f11))) (l11 : K.lookup f11 = some ⟨oc11, od11, .func (PySem.W.fnOf "read_items" "read_items" (defArgs (top 23)) (defBody (top 23)) (defScope (top 23)) .none kV11 dc11 pm11 an11 cd11 ct11), sl11⟩) (c11 : PySem.W.codeIn K cd11 "read_items" = true) (k11 : PySem.W.keepIn K (.ref f11) = true)
    (a12 : PySem.W.nsIn K mainGlobals "entries_of" = some (some (.ref f12))) (l12 : K.lookup f12 = some ⟨oc12, od12, .func (PySem.W.fnOf "entries_of" "entries_of" (defArgs (top 24)) (defBody (top 24)) (defScope (top 24)) .none kV12 dc12 pm12 an12 cd12 ct12), sl12⟩) (c12 : PySem.W.codeIn K cd12 "entries_of" = true) (k12 : PySem.W.keepIn K (.ref f12) = true)
    (a13 : PySem.W.nsIn K mainGlobals "range_of" = some (some (.ref f13))) (l13 : K.lookup f13 = some ⟨oc13, od13, .func (PySem.W.fnOf "range_of" "range_of" (defArgs (top 25)) (defBody (top 25)) (defScope (top 25)) .none kV13 dc13 pm13 an13 cd13 ct13), sl13⟩) (c13 : PySem.W.codeIn K cd13 "range_of" = true) (k13 : PySem.W.keepIn K (.ref f13) = true)
    (a14 : PySem.W.nsIn K mainGlobals "ranges_of" = some (some (.ref f14))) (l14 : K.lookup f14 = some ⟨oc14, od14, .func (PySem.W.fnOf "ranges_of" "ranges_of" (defArgs (top 26)) (defBody (top 26)) (defScope (top 26)) .none kV14 dc14 pm14 an14 cd14 ct14), sl14⟩) (c14 : PySem.W.codeIn K cd14 "ranges_of" = true) (k14 : PySem.W.keepIn K (.ref f14) = true)
    (a15 : PySem.W.nsIn K mainGlobals "read_move" = some (some (.ref f15))) (l15 : K.lookup f15 = some ⟨oc15, od15, .func (PySem.W.fnOf "read_move" "read_move" (defArgs (top 27)) (defBody (top 27)) (defScope (top 27)) .none kV15 dc15 pm15 an15 cd15 ct15), sl15⟩) (c15 : PySem.W.codeIn K cd15 "read_move" = true) (k15 : PySem.W.keepIn K (.ref f15) = true)
    (a16 : PySem.W.nsIn K mainGlobals "read_kinds" = some (some (.ref f16))) (l16 : K.lookup f16 = some ⟨oc16, od16, .func (PySem.W.fnOf "read_kinds" "read_kinds" (defArgs (top 28)) (defBody (top 28)) (defScope (top 28)) .none kV16 dc16 pm16 an16 cd16 ct16), sl16⟩) (c16 : PySem.W.codeIn K cd16 "read_kinds" = true) (k16 : PySem.W.keepIn K (.ref f16) = true)
    (a17 : PySem.W.nsIn K mainGlobals "read_book" = some (some (.ref f17))) (l17 : K.lookup f17 = some ⟨oc17, od17, .func (PySem.W.fnOf "read_book" "read_book" (defArgs (top 29)) (defBody (top 29)) (defScope (top 29)) .none kV17 dc17 pm17 an17 cd17 ct17), sl17⟩) (c17 : PySem.W.codeIn K cd17 "read_book" = true) (k17 : PySem.W.keepIn K (.ref f17) = true)
    (a18 : PySem.W.nsIn K mainGlobals "read_stock" = some (some (.ref f18))) (l18 : K.lookup f18 = some ⟨oc18, od18, .func (PySem.W.fnOf "read_stock" "read_stock" (defArgs (top 30)) (defBody (top 30)) (defScope (top 30)) .none kV18 dc18 pm18 an18 cd18 ct18), sl18⟩) (c18 : PySem.W.codeIn K cd18 "read_stock" = true) (k18 : PySem.W.keepIn K (.ref f18) = true)
    (a19 : PySem.W.nsIn K mainGlobals "read_extended" = some (some (.ref f19))) (l19 : K.lookup f19 = some ⟨oc19, od19, .func (PySem.W.fnOf "read_extended" "read_extended" (defArgs (top 31)) (defBody (top 31)) (defScope (top 31)) .none kV19 dc19 pm19 an19 cd19 ct19), sl19⟩) (c19 : PySem.W.codeIn K cd19 "read_extended" = true) (k19 : PySem.W.keepIn K (.ref f19) = true)
    (a20 : PySem.W.nsIn K mainGlobals "split_steps" = some (some (.ref f20))) (l20 : K.lookup f20 = some ⟨oc20, od20, .func (PySem.W.fnOf "split_steps" "split_steps" (defArgs (top 32)) (defBody (top 32)) (defScope (top 32)) .none kV20 dc20 pm20 an20 cd20 ct20), sl20⟩) (c20 : PySem.W.codeIn K cd20 "split_steps" = true) (k20 : PySem.W.keepIn K (.ref f20) = true)
    (a21 : PySem.W.nsIn K mainGlobals "step_of" = some (some (.ref f21))) (l21 : K.lookup f21 = some ⟨oc21, od21, .func (PySem.W.fnOf "step_of" "step_of" (defArgs (top 33)) (defBody (top 33)) (defScope (top 33)) .none kV21 dc21 pm21 an21 cd21 ct21), sl21⟩) (c21 : PySem.W.codeIn K cd21 "step_of" = true) (k21 : PySem.W.keepIn K (.ref f21) = true)
    (a22 : PySem.W.nsIn K mainGlobals "steps_of" = some (some (.ref f22))) (l22 : K.lookup f22 = some ⟨oc22, od22, .func (PySem.W.fnOf "steps_of" "steps_of" (defArgs (top 34)) (defBody (top 34)) (defScope (top 34)) .none kV22 dc22 pm22 an22 cd22 ct22), sl22⟩) (c22 : PySem.W.codeIn K cd22 "steps_of" = true) (k22 : PySem.W.keepIn K (.ref f22) = true)
    (a23 : PySem.W.nsIn K mainGlobals "read_run" = some (some (.ref f23))) (l23 : K.lookup f23 = some ⟨oc23, od23, .func (PySem.W.fnOf "read_run" "read_run" (defArgs (top 35)) (defBody (top 35)) (defScope (top 35)) .none kV23 dc23 pm23 an23 cd23 ct23), sl23⟩) (c23 : PySem.W.codeIn K cd23 "read_run" = true) (k23 : PySem.W.keepIn K (.ref f23) = true)
    (a24 : PySem.W.nsIn K mainGlobals "_law_mix" = some (some (.ref f24))) (l24 : K.lookup f24 = some ⟨oc24, od24, .func (PySem.W.fnOf "_law_mix" "_law_mix" (defArgs (top 37)) (defBody (top 37)) (defScope (top 37)) .none kV24 dc24 pm24 an24 cd24 ct24), sl24⟩) (c24 : PySem.W.codeIn K cd24 "_law_mix" = true) (k24 : PySem.W.keepIn K (.ref f24) = true)
    (a25 : PySem.W.nsIn K mainGlobals "_law_numbers" = some (some (.ref f25))) (l25 : K.lookup f25 = some ⟨oc25, od25, .func (PySem.W.fnOf "_law_numbers" "_law_numbers" (defArgs (top 38)) (defBody (top 38)) (defScope (top 38)) .none kV25 dc25 pm25 an25 cd25 ct25), sl25⟩) (c25 : PySem.W.codeIn K cd25 "_law_numbers" = true) (k25 : PySem.W.keepIn K (.ref f25) = true)
    (a26 : PySem.W.nsIn K mainGlobals "_law_draws" = some (some (.ref f26))) (l26 : K.lookup f26 = some ⟨oc26, od26, .func (PySem.W.fnOf "_law_draws" "_law_draws" (defArgs (top 39)) (defBody (top 39)) (defScope (top 39)) .none kV26 dc26 pm26 an26 cd26 ct26), sl26⟩) (c26 : PySem.W.codeIn K cd26 "_law_draws" = true) (k26 : PySem.W.keepIn K (.ref f26) = true)
    (a27 : PySem.W.nsIn K mainGlobals "_law_take" = some (some (.ref f27))) (l27 : K.lookup f27 = some ⟨oc27, od27, .func (PySem.W.fnOf "_law_take" "_law_take" (defArgs (top 40)) (defBody (top 40)) (defScope (top 40)) .none kV27 dc27 pm27 an27 cd27 ct27), sl27⟩) (c27 : PySem.W.codeIn K cd27 "_law_take" = true) (k27 : PySem.W.keepIn K (.ref f27) = true)
    (a28 : PySem.W.nsIn K mainGlobals "_law_named" = some (some (.ref f28))) (l28 : K.lookup f28 = some ⟨oc28, od28, .func (PySem.W.fnOf "_law_named" "_law_named" (defArgs (top 41)) (defBody (top 41)) (defScope (top 41)) .none kV28 dc28 pm28 an28 cd28 ct28), sl28⟩) (c28 : PySem.W.codeIn K cd28 "_law_named" = true) (k28 : PySem.W.keepIn K (.ref f28) = true)
    (a29 : PySem.W.nsIn K mainGlobals "_law_stock" = some (some (.ref f29))) (l29 : K.lookup f29 = some ⟨oc29, od29, .func (PySem.W.fnOf "_law_stock" "_law_stock" (defArgs (top 42)) (defBody (top 42)) (defScope (top 42)) .none kV29 dc29 pm29 an29 cd29 ct29), sl29⟩) (c29 : PySem.W.codeIn K cd29 "_law_stock" = true) (k29 : PySem.W.keepIn K (.ref f29) = true)
    (a30 : PySem.W.nsIn K mainGlobals "_law_book" = some (some (.ref f30))) (l30 : K.lookup f30 = some ⟨oc30, od30, .func (PySem.W.fnOf "_law_book" "_law_book" (defArgs (top 43)) (defBody (top 43)) (defScope (top 43)) .none kV30 dc30 pm30 an30 cd30 ct30), sl30⟩) (c30 : PySem.W.codeIn K cd30 "_law_book" = true) (k30 : PySem.W.keepIn K (.ref f30) = true)
    (a31 : PySem.W.nsIn K mainGlobals "_law_run" = some (some (.ref f31))) (l31 : K.lookup f31 = some ⟨oc31, od31, .func (PySem.W.fnOf "_law_run" "_law_run" (defArgs (top 44)) (defBody (top 44)) (defScope (top 44)) .none kV31 dc31 pm31 an31 cd31 ct31), sl31⟩) (c31 : PySem.W.codeIn K cd31 "_law_run" = true) (k31 : PySem.W.keepIn K (.ref f31) = true)
    (a32 : PySem.W.nsIn K mainGlobals "_law_items" = some (some (.ref f32))) (l32 : K.lookup f32 = some ⟨oc32, od32, .func (PySem.W.fnOf "_law_items" "_law_items" (defArgs (top 45)) (defBody (top 45)) (defScope (top 45)) .none kV32 dc32 pm32 an32 cd32 ct32), sl32⟩) (c32 : PySem.W.codeIn K cd32 "_law_items" = true) (k32 : PySem.W.keepIn K (.ref f32) = true)
    (a33 : PySem.W.nsIn K mainGlobals "_law_word" = some (some (.ref f33))) (l33 : K.lookup f33 = some ⟨oc33, od33, .func (PySem.W.fnOf "_law_word" "_law_word" (defArgs (top 46)) (defBody (top 46)) (defScope (top 46)) .none kV33 dc33 pm33 an33 cd33 ct33), sl33⟩) (c33 : PySem.W.codeIn K cd33 "_law_word" = true) (k33 : PySem.W.keepIn K (.ref f33) = true)
    (a34 : PySem.W.nsIn K mainGlobals "_law_range" = some (some (.ref f34))) (l34 : K.lookup f34 = some ⟨oc34, od34, .func (PySem.W.fnOf "_law_range" "_law_range" (defArgs (top 47)) (defBody (top 47)) (defScope (top 47)) .none kV34 dc34 pm34 an34 cd34 ct34), sl34⟩) (c34 : PySem.W.codeIn K cd34 "_law_range" = true) (k34 : PySem.W.keepIn K (.ref f34) = true)
    (a35 : PySem.W.nsIn K mainGlobals "_law_stock_text" = some (some (.ref f35))) (l35 : K.lookup f35 = some ⟨oc35, od35, .func (PySem.W.fnOf "_law_stock_text" "_law_stock_text" (defArgs (top 48)) (defBody (top 48)) (defScope (top 48)) .none kV35 dc35 pm35 an35 cd35 ct35), sl35⟩) (c35 : PySem.W.codeIn K cd35 "_law_stock_text" = true) (k35 : PySem.W.keepIn K (.ref f35) = true)
    (a36 : PySem.W.nsIn K mainGlobals "_law_book_text" = some (some (.ref f36))) (l36 : K.lookup f36 = some ⟨oc36, od36, .func (PySem.W.fnOf "_law_book_text" "_law_book_text" (defArgs (top 49)) (defBody (top 49)) (defScope (top 49)) .none kV36 dc36 pm36 an36 cd36 ct36), sl36⟩) (c36 : PySem.W.codeIn K cd36 "_law_book_text" = true) (k36 : PySem.W.keepIn K (.ref f36) = true)
    (a37 : PySem.W.nsIn K mainGlobals "_law_run_text" = some (some (.ref f37))) (l37 : K.lookup f37 = some ⟨oc37, od37, .func (PySem.W.fnOf "_law_run_text" "_law_run_text" (defArgs (top 50)) (defBody (top 50)) (defScope (top 50)) .none kV37 dc37 pm37 an37 cd37 ct37), sl37⟩) (c37 : PySem.W.codeIn K cd37 "_law_run_text" = true) (k37 : PySem.W.keepIn K (.ref f37) = true)
    (a38 : PySem.W.nsIn K mainGlobals "law" = some (some (.ref f38))) (l38 : K.lookup f38 = some ⟨oc38, od38, .func (PySem.W.fnOf "law" "law" (defArgs (top 51)) (defBody (top 51)) (defScope (top 51)) .none kV38 dc38 pm38 an38 cd38 ct38), sl38⟩) (c38 : PySem.W.codeIn K cd38 "law" = true) (k38 : PySem.W.keepIn K (.ref f38) = true)
    (z_set : PySem.W.nsIn K mainGlobals "set" = some none)
    (z_len : PySem.W.nsIn K mainGlobals "len" = some none)
    (z_range : PySem.W.nsIn K mainGlobals "range" = some none)
    (z_tuple : PySem.W.nsIn K mainGlobals "tuple" = some none)
    (z_list : PySem.W.nsIn K mainGlobals "list" = some none)
    (z_sum : PySem.W.nsIn K mainGlobals "sum" = some none)
    (z_max : PySem.W.nsIn K mainGlobals "max" = some none)
    (z_min : PySem.W.nsIn K mainGlobals "min" = some none)
    (z_abs : PySem.W.nsIn K mainGlobals "abs" = some none)
    (z_int : PySem.W.nsIn K mainGlobals "int" = some none)
    (z_str : PySem.W.nsIn K mainGlobals "str" = some none)
    (z_all : PySem.W.nsIn K mainGlobals "all" = some none)
    (z_any : PySem.W.nsIn K mainGlobals "any" = some none)
    (z_isinstance : PySem.W.nsIn K mainGlobals "isinstance" = some none)
    (z_bool : PySem.W.nsIn K mainGlobals "bool" = some none)
    (z_sorted : PySem.W.nsIn K mainGlobals "sorted" = some none)
    (con_SMALL : PySem.W.nsIn K mainGlobals "SMALL" = some (some (.str "abcdefghijklmnopqrstuvwxyz" t_SMALL)))
    (con_DIGITS : PySem.W.nsIn K mainGlobals "DIGITS" = some (some (.str "0123456789" t_DIGITS)))
    (con_RESERVED : PySem.W.nsIn K mainGlobals "RESERVED" = some (some (.ref ad_RESERVED))) (lcon_RESERVED : K.lookup ad_RESERVED = some ⟨.type "tuple", od_RESERVED, .seq ([.str "kinds" t_RESERVED_0, .str "nothing" t_RESERVED_1, .str "endless" t_RESERVED_2, .str "x" t_RESERVED_3] : List Value).toArray n_RESERVED, sl_RESERVED⟩)
    (con_MAX_KINDS : PySem.W.nsIn K mainGlobals "MAX_KINDS" = some (some (.int (6) t_MAX_KINDS)))
    (con_MAX_MOVES : PySem.W.nsIn K mainGlobals "MAX_MOVES" = some (some (.int (8) t_MAX_MOVES)))
    (con_MAX_ENTRY : PySem.W.nsIn K mainGlobals "MAX_ENTRY" = some (some (.int (1000) t_MAX_ENTRY)))
    (con_MAX_NESTED : PySem.W.nsIn K mainGlobals "MAX_NESTED" = some (some (.int (30) t_MAX_NESTED)))
    (con_MOST : PySem.W.nsIn K mainGlobals "MOST" = some (some (.int (1000000000000000000000000000000) t_MOST)))
    : ∃ fd : FuncData, (∀ (s : Shared) (v : Value), BindsTo s fd ⟨[v], []⟩ [("_law_script", v)]) ∧ ∀ base : Heap, K.In base → base.Ns mainGlobals mg → FnOk l.prog w K mg base CX0 16 fa fd ["_law_script"] (spLaw K) :=
  law_mk X Gm hfa a38 l38 c38 k38 (fun s v => .of_eq rfl) fun fd base F =>
    have g : G l.prog w K mg base := {
      bt := ⟨PySem.W.mg_none_of X Gm z_len, PySem.W.mg_none_of X Gm z_range, PySem.W.mg_none_of X Gm z_tuple, PySem.W.mg_none_of X Gm z_list, PySem.W.mg_none_of X Gm z_sum, PySem.W.mg_none_of X Gm z_max, PySem.W.mg_none_of X Gm z_min, PySem.W.mg_none_of X Gm z_abs, PySem.W.mg_none_of X Gm z_int, PySem.W.mg_none_of X Gm z_str, PySem.W.mg_none_of X Gm z_all, PySem.W.mg_none_of X Gm z_any, PySem.W.mg_none_of X Gm z_isinstance, PySem.W.mg_none_of X Gm z_bool, PySem.W.mg_none_of X Gm z_sorted⟩
      at_is_name := at_mk X Gm a1 l1 c1 k1 (fun fd F => F.binds fun _ _ _ _ _ _ us hl => match us, hl with | [_], _ => rfl)
      at_move_index := at_mk X Gm a2 l2 c2 k2 (fun fd F => F.binds fun _ _ _ _ _ _ us hl => match us, hl with | [_, _], _ => rfl)
      at_print_items := at_mk X Gm a3 l3 c3 k3 (fun fd F => F.binds fun _ _ _ _ _ _ us hl => match us, hl with | [_, _], _ => rfl)
      at_written := at_mk X Gm a4 l4 c4 k4 (fun fd F => F.binds fun _ _ _ _ _ _ us hl => match us, hl with | [_], _ => rfl)
      at_print_stock := at_mk X Gm a5 l5 c5 k5 (fun fd F => F.binds fun _ _ _ _ _ _ us hl => match us, hl with | [_, _], _ => rfl)
      at_print_range := at_mk X Gm a6 l6 c6 k6 (fun fd F => F.binds fun _ _ _ _ _ _ us hl => match us, hl with | [_, _], _ => rfl)
      at_print_move := at_mk X Gm a7 l7 c7 k7 (fun fd F => F.binds fun _ _ _ _ _ _ us hl => match us, hl with | [_, _], _ => rfl)
      at_print_book := at_mk X Gm a8 l8 c8 k8 (fun fd F => F.binds fun _ _ _ _ _ _ us hl => match us, hl with | [_], _ => rfl)
      at_print_run := at_mk X Gm a9 l9 c9 k9 (fun fd F => F.binds fun _ _ _ _ _ _ us hl => match us, hl with | [_, _], _ => rfl)
      at_number_of := at_mk X Gm a10 l10 c10 k10 (fun fd F => F.binds fun _ _ _ _ _ _ us hl => match us, hl with | [_, _], _ => rfl)
      at_read_items := at_mk X Gm a11 l11 c11 k11 (fun fd F => F.binds fun _ _ _ _ _ _ us hl => match us, hl with | [_, _], _ => rfl)
      at_entries_of := at_mk X Gm a12 l12 c12 k12 (fun fd F => F.binds fun _ _ _ _ _ _ us hl => match us, hl with | [_, _, _, _], _ => rfl)
      at_range_of := at_mk X Gm a13 l13 c13 k13 (fun fd F => F.binds fun _ _ _ _ _ _ us hl => match us, hl with | [_], _ => rfl)
      at_ranges_of := at_mk X Gm a14 l14 c14 k14 (fun fd F => F.binds fun _ _ _ _ _ _ us hl => match us, hl with | [_, _], _ => rfl)
      at_read_move := at_mk X Gm a15 l15 c15 k15 (fun fd F => F.binds fun _ _ _ _ _ _ us hl => match us, hl with | [_, _], _ => rfl)
      at_read_kinds := at_mk X Gm a16 l16 c16 k16 (fun fd F => F.binds fun _ _ _ _ _ _ us hl => match us, hl with | [_], _ => rfl)
      at_read_book := at_mk X Gm a17 l17 c17 k17 (fun fd F => F.binds fun _ _ _ _ _ _ us hl => match us, hl with | [_], _ => rfl)
      at_read_stock := at_mk X Gm a18 l18 c18 k18 (fun fd F => F.binds fun _ _ _ _ _ _ us hl => match us, hl with | [_, _], _ => rfl)
      at_read_extended := at_mk X Gm a19 l19 c19 k19 (fun fd F => F.binds fun _ _ _ _ _ _ us hl => match us, hl with | [_, _], _ => rfl)
      at_split_steps := at_mk X Gm a20 l20 c20 k20 (fun fd F => F.binds fun _ _ _ _ _ _ us hl => match us, hl with | [_], _ => rfl)
      at_step_of := at_mk X Gm a21 l21 c21 k21 (fun fd F => F.binds fun _ _ _ _ _ _ us hl => match us, hl with | [_, _, _], _ => rfl)
      at_steps_of := at_mk X Gm a22 l22 c22 k22 (fun fd F => F.binds fun _ _ _ _ _ _ us hl => match us, hl with | [_, _, _], _ => rfl)
      at_read_run := at_mk X Gm a23 l23 c23 k23 (fun fd F => F.binds fun _ _ _ _ _ _ us hl => match us, hl with | [_, _], _ => rfl)
      at_law_mix := at_mk X Gm a24 l24 c24 k24 (fun fd F => F.binds fun _ _ _ _ _ _ us hl => match us, hl with | [_, _], _ => rfl)
      at_law_numbers := at_mk X Gm a25 l25 c25 k25 (fun fd F => F.binds fun _ _ _ _ _ _ us hl => match us, hl with | [_, _], _ => rfl)
      at_law_draws := at_mk X Gm a26 l26 c26 k26 (fun fd F => F.binds fun _ _ _ _ _ _ us hl => match us, hl with | [_, _], _ => rfl)
      at_law_take := at_mk X Gm a27 l27 c27 k27 (fun fd F => F.binds fun _ _ _ _ _ _ us hl => match us, hl with | [_, _], _ => rfl)
      at_law_named := at_mk X Gm a28 l28 c28 k28 (fun fd F => F.binds fun _ _ _ _ _ _ us hl => match us, hl with | [_], _ => rfl)
      at_law_stock := at_mk X Gm a29 l29 c29 k29 (fun fd F => F.binds fun _ _ _ _ _ _ us hl => match us, hl with | [_, _, _], _ => rfl)
      at_law_book := at_mk X Gm a30 l30 c30 k30 (fun fd F => F.binds fun _ _ _ _ _ _ us hl => match us, hl with | [_, _], _ => rfl)
      at_law_run := at_mk X Gm a31 l31 c31 k31 (fun fd F => F.binds fun _ _ _ _ _ _ us hl => match us, hl with | [_, _, _, _], _ => rfl)
      at_law_items := at_mk X Gm a32 l32 c32 k32 (fun fd F => F.binds fun _ _ _ _ _ _ us hl => match us, hl with | [_, _, _, _], _ => rfl)
      at_law_word := at_mk X Gm a33 l33 c33 k33 (fun fd F => F.binds fun _ _ _ _ _ _ us hl => match us, hl with | [_], _ => rfl)
      at_law_range := at_mk X Gm a34 l34 c34 k34 (fun fd F => F.binds fun _ _ _ _ _ _ us hl => match us, hl with | [_, _], _ => rfl)
      at_law_stock_text := at_mk X Gm a35 l35 c35 k35 (fun fd F => F.binds fun _ _ _ _ _ _ us hl => match us, hl with | [_, _, _, _], _ => rfl)
      at_law_book_text := at_mk X Gm a36 l36 c36 k36 (fun fd F => F.binds fun _ _ _ _ _ _ us hl => match us, hl with | [_, _, _], _ => rfl)
      at_law_run_text := at_mk X Gm a37 l37 c37 k37 (fun fd F => F.binds fun _ _ _ _ _ _ us hl => match us, hl with | [_, _], _ => rfl)
      at_law := at_mk X Gm a38 l38 c38 k38 (fun fd F => F.binds fun _ _ _ _ _ _ us hl => match us, hl with | [_], _ => rfl)
      bt_set := PySem.W.mg_none_of X Gm z_set
      con_SMALL := con_mk_str X Gm con_SMALL
      con_DIGITS := con_mk_str X Gm con_DIGITS
      con_RESERVED := con_mk_tup X Gm con_RESERVED lcon_RESERVED rfl rfl (show (4 : Nat) ≤ PySem.sizeLine by decide) (.cons ⟨_, rfl⟩ (.cons ⟨_, rfl⟩ (.cons ⟨_, rfl⟩ (.cons ⟨_, rfl⟩ (.nil))))) rfl
      con_MAX_KINDS := con_mk_int X Gm con_MAX_KINDS
      con_MAX_MOVES := con_mk_int X Gm con_MAX_MOVES
      con_MAX_ENTRY := con_mk_int X Gm con_MAX_ENTRY
      con_MAX_NESTED := con_mk_int X Gm con_MAX_NESTED
      con_MOST := con_mk_int X Gm con_MOST }
    d_law g F fin_m fin_o
end k01
open PySem PySem.W PyProof.Rows
set_option maxHeartbeats 0 in
theorem PySem.Challenge.cw_mintlaw_k01_texts_read_back_holds : PySem.Challenge.rw_mintlaw_k01_texts_read_back.Holds := by
  w_on; o_law; k_head; (case hw => w_witness2)
  k_fill
  refine L2.walk_of (l := PySem.Challenge.rw_mintlaw_k01_texts_read_back) (n := 63) (k := 16) (x := "_law_script") (CX := fun _ => L2.CX0) (sp := fun w => Pu.spLaw _) rfl (by decide) rfl ⟨rfl, by decide, by decide⟩ (fun w h Y => PySem.W.kIn_of Y) ?F (fun _ _ a ns hl _ hS => ⟨a, ns, rfl, hS, hl, fun P h => (by obtain ⟨x, hx, _⟩ := h; cases (show x ∈ ([] : List PySem.Str) from hx)), fun _ _ => rfl⟩) (fun _ _ _ _ _ h => h)
  case F =>
    intro w mg fa h KX G hmg
    refine' k01.all_mk KX G hmg ?a1 ?l1 ?c1 ?k1 ?a2 ?l2 ?c2 ?k2 ?a3 ?l3 ?c3 ?k3 ?a4 ?l4 ?c4 ?k4 ?a5 ?l5 ?c5 ?k5 ?a6 ?l6 ?c6 ?k6 ?a7 ?l7 ?c7 ?k7 ?a8 ?l8 ?c8 ?k8 ?a9 ?l9 ?c9 ?k9 ?a10 ?l10 ?c10 ?k10 ?a11 ?l11 ?c11 ?k11 ?a12 ?l12 ?c12 ?k12 ?a13 ?l13 ?c13 ?k13 ?a14 ?l14 ?c14 ?k14 ?a15 ?l15 ?c15 ?k15 ?a16 ?l16 ?c16 ?k16 ?a17 ?l17 ?c17 ?k17 ?a18 ?l18 ?c18 ?k18 ?a19 ?l19 ?c19 ?k19 ?a20 ?l20 ?c20 ?k20 ?a21 ?l21 ?c21 ?k21 ?a22 ?l22 ?c22 ?k22 ?a23 ?l23 ?c23 ?k23 ?a24 ?l24 ?c24 ?k24 ?a25 ?l25 ?c25 ?k25 ?a26 ?l26 ?c26 ?k26 ?a27 ?l27 ?c27 ?k27 ?a28 ?l28 ?c28 ?k28 ?a29 ?l29 ?c29 ?k29 ?a30 ?l30 ?c30 ?k30 ?a31 ?l31 ?c31 ?k31 ?a32 ?l32 ?c32 ?k32 ?a33 ?l33 ?c33 ?k33 ?a34 ?l34 ?c34 ?k34 ?a35 ?l35 ?c35 ?k35 ?a36 ?l36 ?c36 ?k36 ?a37 ?l37 ?c37 ?k37 ?a38 ?l38 ?c38 ?k38 ?z_set ?z_len ?z_range ?z_tuple ?z_list ?z_sum ?z_max ?z_min ?z_abs ?z_int ?z_str ?z_all ?z_any ?z_isinstance ?z_bool ?z_sorted ?con_SMALL ?con_DIGITS ?con_RESERVED ?lcon_RESERVED ?con_MAX_KINDS ?con_MAX_MOVES ?con_MAX_ENTRY ?con_MAX_NESTED ?con_MOST
    (case a1 => k_is); (case l1 => k_is); (case c1 => k_is); (case k1 => k_is); (case a2 => k_is); (case l2 => k_is); (case c2 => k_is); (case k2 => k_is)
    (case a3 => k_is); (case l3 => k_is); (case c3 => k_is); (case k3 => k_is); (case a4 => k_is); (case l4 => k_is); (case c4 => k_is); (case k4 => k_is)
    (case a5 => k_is); (case l5 => k_is); (case c5 => k_is); (case k5 => k_is); (case a6 => k_is); (case l6 => k_is); (case c6 => k_is); (case k6 => k_is)
    (case a7 => k_is); (case l7 => k_is); (case c7 => k_is); (case k7 => k_is); (case a8 => k_is); (case l8 => k_is); (case c8 => k_is); (case k8 => k_is)
    (case a9 => k_is); (case l9 => k_is); (case c9 => k_is); (case k9 => k_is); (case a10 => k_is); (case l10 => k_is); (case c10 => k_is); (case k10 => k_is)
    (case a11 => k_is); (case l11 => k_is); (case c11 => k_is); (case k11 => k_is); (case a12 => k_is); (case l12 => k_is); (case c12 => k_is); (case k12 => k_is)
    (case a13 => k_is); (case l13 => k_is); (case c13 => k_is); (case k13 => k_is); (case a14 => k_is); (case l14 => k_is); (case c14 => k_is); (case k14 => k_is)
    (case a15 => k_is); (case l15 => k_is); (case c15 => k_is); (case k15 => k_is); (case a16 => k_is); (case l16 => k_is); (case c16 => k_is); (case k16 => k_is)
    (case a17 => k_is); (case l17 => k_is); (case c17 => k_is); (case k17 => k_is); (case a18 => k_is); (case l18 => k_is); (case c18 => k_is); (case k18 => k_is)
    (case a19 => k_is); (case l19 => k_is); (case c19 => k_is); (case k19 => k_is); (case a20 => k_is); (case l20 => k_is); (case c20 => k_is); (case k20 => k_is)
    (case a21 => k_is); (case l21 => k_is); (case c21 => k_is); (case k21 => k_is); (case a22 => k_is); (case l22 => k_is); (case c22 => k_is); (case k22 => k_is)
    (case a23 => k_is); (case l23 => k_is); (case c23 => k_is); (case k23 => k_is); (case a24 => k_is); (case l24 => k_is); (case c24 => k_is); (case k24 => k_is)
    (case a25 => k_is); (case l25 => k_is); (case c25 => k_is); (case k25 => k_is); (case a26 => k_is); (case l26 => k_is); (case c26 => k_is); (case k26 => k_is)
    (case a27 => k_is); (case l27 => k_is); (case c27 => k_is); (case k27 => k_is); (case a28 => k_is); (case l28 => k_is); (case c28 => k_is); (case k28 => k_is)
    (case a29 => k_is); (case l29 => k_is); (case c29 => k_is); (case k29 => k_is); (case a30 => k_is); (case l30 => k_is); (case c30 => k_is); (case k30 => k_is)
    (case a31 => k_is); (case l31 => k_is); (case c31 => k_is); (case k31 => k_is); (case a32 => k_is); (case l32 => k_is); (case c32 => k_is); (case k32 => k_is)
    (case a33 => k_is); (case l33 => k_is); (case c33 => k_is); (case k33 => k_is); (case a34 => k_is); (case l34 => k_is); (case c34 => k_is); (case k34 => k_is)
    (case a35 => k_is); (case l35 => k_is); (case c35 => k_is); (case k35 => k_is); (case a36 => k_is); (case l36 => k_is); (case c36 => k_is); (case k36 => k_is)
    (case a37 => k_is); (case l37 => k_is); (case c37 => k_is); (case k37 => k_is); (case a38 => k_is); (case l38 => k_is); (case c38 => k_is); (case k38 => k_is)
    (case z_set => k_is); (case z_len => k_is); (case z_range => k_is); (case z_tuple => k_is); (case z_list => k_is); (case z_sum => k_is); (case z_max => k_is); (case z_min => k_is)
    (case z_abs => k_is); (case z_int => k_is); (case z_str => k_is); (case z_all => k_is); (case z_any => k_is); (case z_isinstance => k_is); (case z_bool => k_is); (case z_sorted => k_is)
    (case con_SMALL => k_is); (case con_DIGITS => k_is); (case con_RESERVED => k_is); (case lcon_RESERVED => k_is); (case con_MAX_KINDS => k_is); (case con_MAX_MOVES => k_is); (case con_MAX_ENTRY => k_is); (case con_MAX_NESTED => k_is)
    (case con_MOST => k_is)
